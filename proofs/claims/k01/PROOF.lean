import PyProof.Rows.All
import Wide.All
import OpenK.AllK
import Wide.FinOn
import HandS.ForMost
import HandS.ForExc
import HandS.CallSlots
import HandS.IsInst
import HandS.ExcIs
import HandS.ExcField
import HandS.Deep
import HandS.SortInts
import HandS.SortRule
import HandS.TupAny
import HandS.Zip
import HandS.Conv
import HandS.Style
import HandS.ExcValue
import PyProof.ReprRoads
import HandS.Walk
import HandS.Text
import PyProof.Rows.SetFrom
import HandS.Strs
import HandS.Iter
import HandS.More
import HandS.DictTup
import PyProof.DictMoreH
import PyProof.ReprLen
import PySem.Challenge.RW_joinside_k01_webs
set_option Elab.async false
set_option linter.all false
set_option maxRecDepth 100000
set_option maxHeartbeats 4000000
set_option autoImplicit false
/-! Joinside, base: promises of defs where the stack holds no guard (repr may be called), calls by them. -/
namespace J
open PySem PySem.Spec PyProof.Rows L2

/-- a def's promise, asked where no guard is on the stack -/
structure FnG (P : Program) (w : World) (K : PySem.W.Frag) (mg : Str → Option Value) (base : Heap) (k : Nat) (f : Addr) (fd : FuncData) (ps : List Str) (sp : Sp) : Prop where
  len : ∀ vs H Q E, sp vs H Q E → vs.length = ps.length
  run : ∀ (A : Around) (outer : List Env) (s : Shared) (H : Hp) (args : Args) (us : List Value) (vs : List V) (Q : VK) (E : XK), Room k A → A.guards = some [] → Env0 P w K mg base A outer s H →
    BindsTo s fd args (ps.zip us) → Vals vs us → sp vs H Q E → codeAny (model P w) A (.call (.ref f) args) (CR (L2.CX P w) outer P w H s Q E) s

section
variable {P : Program} {w : World} {K : PySem.W.Frag} {mg : Str → Option Value} {base : Heap}
theorem FnG.mono {j k : Nat} {f : Addr} {fd : FuncData} {ps : List Str} {sp : Sp} (F : FnG P w K mg base j f fd ps sp) (h : j ≤ k) : FnG P w K mg base k f fd ps sp :=
  ⟨F.len, fun A outer s H args us vs Q E r => F.run A outer s H args us vs Q E (r.mono h)⟩
theorem FnG.imp {k : Nat} {f : Addr} {fd : FuncData} {ps : List Str} {sp sp' : Sp} (F : FnG P w K mg base k f fd ps sp) (h : ∀ vs H Q E, sp' vs H Q E → sp vs H Q E) : FnG P w K mg base k f fd ps sp' :=
  ⟨fun vs H Q E q => F.len vs H Q E (h _ _ _ _ q), fun A outer s H args us vs Q E r g e b v q => F.run A outer s H args us vs Q E r g e b v (h _ _ _ _ q)⟩

/-- the rule of a def -/
theorem okG {x qual : Str} {st : Stmt} {f : Addr} {fd : FuncData} {N ps : List Str} {k : Nat} {sp : Sp} (F : Fun K x qual st f fd) (S : FnScope N ps (defScope st)) (len : ∀ vs H Q E, sp vs H Q E → vs.length = ps.length)
    (walk : ∀ (cdv : Value) (A : Around) (outer : List Env) (s : Shared) (H : Hp) (vs : List V) (Q : VK) (E : XK), Room k (A.deeper (envOfC qual (defScope st) s.heap.objs.size f cdv)) → A.guards = some [] → sp vs H Q E →
      ∃ t, PSs (cxOf (L2.CX P w) P w K mg base N qual (defScope st) f cdv A outer s H E) (defBody st) t ∧ t { nx := fun _ H' => Q .non H', rt := Q } (start N vs) H) : FnG P w K mg base (k + 1) f fd ps sp := by
  obtain ⟨oc, od, kV, doc, pm, an, cdv, ct, osl, rfl, lk, hcd⟩ := F.ex
  constructor
  · exact len
  intro A outer s H args us vs Q E room gd env bnd rel asked
  have size_eq := len _ _ _ _ asked
  have kin : K.In s.heap := env.mod.kin.keeps fun b o z => (env.bs b o z).1
  have nolim : s.heap.NoLimit := env.mod.nolimit.keeps fun b o z => (env.bs b o z).1
  have kinds : ∀ y ∈ ps.zip us, (defScope st).names.lookup y.1 = some .local ∨ ((defScope st).names.lookup y.1 = some .cell ∧ ((cellsFrom (s.heap.objs.size + 1) (defScope st).names []).lookup y.1).isSome = true) := by
    rintro ⟨n, v⟩ mem
    have q := S.par n (List.of_mem_zip mem).1
    cases q with
    | inl q => exact Or.inl q
    | inr q => exact Or.inr (And.intro q (PySem.W.cellsFrom_some _ _ _ (Or.inl q)))
  apply codeAny_call_function room.depth (kin _ _ lk) rfl S.co S.gen rfl (PySem.W.codeRec_of kin hcd)
  apply bnd
  refine wpAny_newFunctionEnv_cells S.kind kinds (fun fr hfr s1 inC => ?_)
  subst hfr
  constructor
  · exact nolim.keeps inC.toInCall.keep
  apply codeAny_func
  have todo := walk cdv A outer s H vs Q E (room.deeper _) gd asked
  obtain ⟨t, derived, reading⟩ := todo
  have I0 := inv_start (E := E) (CX := L2.CX P w) S room.hd env size_eq rel inC
  apply wpAny_mono (derived.run [] s1 (start N vs) H _ I0 reading)
  · intro fl s' got
    match fl, got with
    | .ret u, ⟨v, σ', H', J, rv, q⟩ => exact ⟨v, H', J.os, J.bare, J.base, J.hok, rv, q⟩
    | .next, ⟨σ', H', J, q⟩ => exact ⟨V.non, H', J.os, J.bare, J.base, J.hok, rfl, q⟩
    | .brk, ⟨_, _, _, q⟩ => exact q.elim
    | .cont, ⟨_, _, _, q⟩ => exact q.elim
  · intro e s' q
    exact q
end

/-! ### calls -/
/-- f(..), what is raised wished for at the caller's slots -/
def tCl (sp : Sp) (W : WX) (t : TA) : TE := fun σ H Q => t σ H fun vs H1 => sp vs H1 Q fun cls d H' => W cls d σ H'
/-- o.m(..) for an o of several classes; D: which class keeps which promise -/
def tCm (D : Addr → Sp → Prop) (m : Str) (W : WX) (to : TE) (t : TA) : TE := fun σ H Q => to σ H fun x H1 => ∃ a C dx fs, x = .ref a ∧ H1 a = some (.ins C dx fs) ∧ fs.lookup m = none ∧
  ∃ sp, D C sp ∧ t σ H1 fun vs H2 => sp (x :: vs) H2 Q fun cls d H' => W cls d σ H'
/-- C(..) -/
def tMk (C : Addr) (sp : Sp) (W : WX) (t : TA) : TE := fun σ H Q => t σ H fun vs H1 => ∀ x dx, H1 x = none → H1 dx = none → dx ≠ x →
  sp (.ref x :: vs) (upd (upd H1 dx (.own x)) x (.ins C dx [])) (fun v H2 => v = .non ∧ Q (.ref x) H2) fun cls d H' => W cls d σ H'

/-- what the caller needs of a method of a class -/
structure MethG (P : Program) (w : World) (K : PySem.W.Frag) (mg : Str → Option Value) (base : Heap) (k : Nat) (C : Addr) (m : Str) (sp : Sp) : Prop where
  cls : Cls K C
  ex : ∃ f fd ps, Meth K C m f ∧ FnG P w K mg base k f fd ps sp ∧ Binds K fd ps []

section
variable {X : Cx} {k : Nat} {f C : Addr} {fd : FuncData} {ps : List Str} {sp : Sp} {W : WX} {x m : Str} {p pos apos : Pos} {e o : Expr} {es : List Expr} {ta : TE} {t : TA}
theorem run_g {pins : List (Addr × Obj)} {σ : L2.St} {H : Hp} {s : Shared} {Q : VK} {us : List Value} {vs : List V} (F : FnG X.prog X.w X.K X.mg X.base k f fd ps sp) (hr : Room k X.A) (hG : X.A.guards = some []) (hb : Binds X.K fd ps []) (tk : Takes X W)
    (I : Inv X pins σ H s) (r : Vals vs us) (h : sp vs H Q fun cls d H' => W cls d σ H') : wpAny (model X.prog X.w) X.A (call (.ref f) us) (EP X pins σ Q) X.xe s := by
  have sizes : (us ++ []).length = ps.length := by
    have a := r.length
    have b := F.len _ _ _ _ h
    simp only [List.append_nil]
    omega
  have bound := hb s us I.kIn sizes
  rw [List.append_nil] at bound
  apply wpAny_call
  apply codeAny_mono (F.run X.A X.stack s H ⟨us, []⟩ us vs Q _ hr hG I.env0 bound r h)
  intro res s' got
  match res, got with
  | .error err, got => exact passAt tk σ pins H s err s' I got
  | .ok (.ret u), got => exact I.after got
  | .ok .next, got => exact got.elim
  | .ok .brk, got => exact got.elim
  | .ok .cont, got => exact got.elim
theorem pe_cl (F : FnG X.prog X.w X.K X.mg X.base k f fd ps sp) (hr : Room k X.A) (hG : X.A.guards = some []) (hg : Gl X x) (hm : X.mg x = some (.ref f)) (hk : PySem.W.keepIn X.K (.ref f) = true) (hb : Binds X.K fd ps []) (tk : Takes X W)
    (ha : PA X (e :: es) t) (hdb : (x == ("__debug__" : Str)) = false := by decide) (he : starEach (e :: es) X.env = (false, eval e X.env) :: starEach es X.env := by rfl) (hpl : (backTo pos (starEach es X.env)).any (·.1) = false := by rfl) :
    PE X (.Call (.Name x p) (e :: es) [] pos) (tCl sp W t) := by
  constructor
  intro pins s σ H Q I h
  apply wpAny_Call_Name_kw
  apply ld_glob I hg hm _ hdb
  apply PySem.W.callWith_K (h₀ := X.base) I.ok.mod.kin hk _ he hpl
  exact thn (ha.run pos pins s σ H _ I h) fun us s1 got => by
    obtain ⟨vs, H1, I1, r, q⟩ := got
    exact ⟨I1.kIn, run_g F hr hG hb tk I1 r q⟩
theorem pe_cl0 (F : FnG X.prog X.w X.K X.mg X.base k f fd ps sp) (hr : Room k X.A) (hG : X.A.guards = some []) (hg : Gl X x) (hm : X.mg x = some (.ref f)) (hk : PySem.W.keepIn X.K (.ref f) = true) (hb : Binds X.K fd ps []) (tk : Takes X W)
    (hdb : (x == ("__debug__" : Str)) = false := by decide) : PE X (.Call (.Name x p) [] [] pos) (tCl sp W tNil) := by
  constructor
  intro pins s σ H Q I h
  apply wpAny_Call_Name_kw
  apply ld_glob I hg hm _ hdb
  exact PySem.W.callWith_K0 I.kIn hk (run_g (us := []) F hr hG hb tk I .nil h)
theorem pe_cm {pl : Sem Bool} {D : Addr → Sp → Prop} (he : PE X o ta) (hD : ∀ C sp, D C sp → MethG X.prog X.w X.K X.mg X.base k C m sp) (hr : Room k X.A) (hG : X.A.guards = some []) (tk : Takes X W) (ha : PA X (e :: es) t)
    (hst : starEach (e :: es) X.env = (false, eval e X.env) :: starEach es X.env := by rfl) (hpl : (backTo pos (starEach es X.env)).any (·.1) = false := by rfl)
    (ht : eval (.Call (.Attribute o m apos) (e :: es) [] pos) X.env = (do
      let ov ← eval o X.env
      standAt apos.atName
      let (f, first) ← holding [ov] (getMethod ov m pl)
      callWith pos f first (backTo pos (starEach (e :: es) X.env)) (backToKw pos (keywordEach [] X.env))) := by rfl) :
    PE X (.Call (.Attribute o m apos) (e :: es) [] pos) (tCm D m W ta t) := by
  constructor
  intro pins s σ H Q I h
  refine PySem.W.methodCall_KW (pl := pl) (thn (he.run pins s σ H _ I h) ?_) ht
  rintro u s1 ⟨x, H1, I1, rx, a, C, dx, fs, rfl, ea, l, sp, dsp, q⟩
  obtain ⟨cls, f, fd, ps, hm, F, hb⟩ := hD C sp dsp
  obtain rfl : u = Value.ref a := rx
  refine getmeth_ok I1 ea cls hm l ?_
  refine PySem.W.callWith_K (first := [.ref a]) (h₀ := X.base) I.ok.mod.kin hm.kp (thn (ha.run pos pins s1 σ H1 _ I1 q) ?_) hst hpl
  rintro us s2 ⟨vs, H2, I2, r, q2⟩
  exact ⟨I2.kIn, run_g (us := .ref a :: us) (vs := .ref a :: vs) F hr hG hb tk I2 (.cons rfl r) q2⟩
theorem pe_cm0 {pl : Sem Bool} {D : Addr → Sp → Prop} (he : PE X o ta) (hD : ∀ C sp, D C sp → MethG X.prog X.w X.K X.mg X.base k C m sp) (hr : Room k X.A) (hG : X.A.guards = some []) (tk : Takes X W)
    (ht : eval (.Call (.Attribute o m apos) [] [] pos) X.env = (do
      let ov ← eval o X.env
      standAt apos.atName
      let (f, first) ← holding [ov] (getMethod ov m pl)
      callWith pos f first (backTo pos (starEach [] X.env)) (backToKw pos (keywordEach [] X.env))) := by rfl) :
    PE X (.Call (.Attribute o m apos) [] [] pos) (tCm D m W ta tNil) := by
  constructor
  intro pins s σ H Q I h
  refine PySem.W.methodCall_KW (pl := pl) (thn (he.run pins s σ H _ I h) ?_) ht
  rintro u s1 ⟨x, H1, I1, rx, a, C, dx, fs, rfl, ea, l, sp, dsp, q⟩
  obtain ⟨cls, f, fd, ps, hm, F, hb⟩ := hD C sp dsp
  obtain rfl : u = Value.ref a := rx
  refine getmeth_ok I1 ea cls hm l ?_
  exact PySem.W.callWith_K0 (first := [.ref a]) I1.kIn hm.kp (run_g (us := [.ref a]) (vs := [.ref a]) F hr hG hb tk I1 (.cons rfl .nil) q)
theorem pe_mkG (M : Mk X.K C f) (F : FnG X.prog X.w X.K X.mg X.base k f fd ps sp) (hr : Room (k + 1) X.A) (hG : X.A.guards = some []) (hg : Gl X x) (hm : X.mg x = some (.ref C)) (hb : Binds X.K fd ps []) (tk : Takes X W)
    (ha : PA X (e :: es) t) (hdb : (x == ("__debug__" : Str)) = false := by decide) (he : starEach (e :: es) X.env = (false, eval e X.env) :: starEach es X.env := by rfl) (hpl : (backTo pos (starEach es X.env)).any (·.1) = false := by rfl) :
    PE X (.Call (.Name x p) (e :: es) [] pos) (tMk C sp W t) := by
  constructor
  intro pins s σ H Q I h
  apply wpAny_Call_Name_kw
  apply ld_glob I hg hm _ hdb
  refine PySem.W.callWith_K (h₀ := X.base) I.ok.mod.kin M.kp (thn (ha.run pos pins s σ H _ I h) ?_) he hpl
  rintro us s1 ⟨vs, H1, I1, r, q⟩
  refine ⟨I1.kIn, ?_⟩
  have asked := q (s1.heap.objs.size + 1) s1.heap.objs.size (I1.hok.fresh (Nat.le_succ _)) (I1.hok.fresh (Nat.le_refl _)) (Nat.ne_of_lt (Nat.lt_succ_self _))
  have made := Inv.made (C := C) I1
  have rel : Vals (V.ref (s1.heap.objs.size + 1) :: vs) (Value.ref (s1.heap.objs.size + 1) :: us) := .cons rfl r
  have sizes : ((Value.ref (s1.heap.objs.size + 1) :: us) ++ []).length = ps.length := by
    have a := rel.length
    have b := F.len _ _ _ _ asked
    simp only [List.append_nil]
    omega
  have bound := hb _ (Value.ref (s1.heap.objs.size + 1) :: us) made.kIn sizes
  rw [List.append_nil] at bound
  apply wpAny_call
  apply make_map (f := f) I1.kIn M.makes M.init (beq_iff_eq.mp M.fn)
  have gd : (X.A.under (.builtin "type.__call__" ⟨.ref C :: us, []⟩)).guards = some [] := by
    first | exact hG | (simp [Around.under, hG, Code.guards, Code.isGuard, guardIds, pushGuards])
  refine codeAny_mono (F.run _ X.stack _ _ ⟨Value.ref (s1.heap.objs.size + 1) :: us, []⟩ _ _ _ _ (hr.make C us []) gd (made.env0.make C us []) bound rel asked) ?_
  intro res s' got
  match res, got with
  | .error err, got => exact passAt tk σ pins _ _ err s' made got
  | .ok (.ret u), got =>
    obtain ⟨v, H', I3, rv, ev, q3⟩ := made.after got
    subst ev
    exact ⟨rv, ⟨V.ref (s1.heap.objs.size + 1), H', I3, rfl, q3⟩⟩
  | .ok .next, got => exact got.elim
  | .ok .brk, got => exact got.elim
  | .ok .cont, got => exact got.elim
end
/-- one suite after another, what lies between being told by I -/
def tSeqJ (t u : TS) : TS := fun D σ H => ∃ I : L2.St → Hp → Prop, t { D with nx := I } σ H ∧ ∀ σ' H', I σ' H' → u D σ' H'
theorem pss_consJ {X : Cx} {st : Stmt} {rest : List Stmt} {t u : TS} (h1 : PS X st t) (h2 : PSs X rest u) : PSs X (st :: rest) (tSeqJ t u) := by
  refine ⟨fun pins s σ H D I ⟨J, h, hj⟩ => wpAny_execs_cons (thn (h1.run pins s σ H { D with nx := J } I h) fun f s1 q => ?_)⟩
  match f, q with
  | .next, ⟨σ', H', I', q⟩ => exact h2.run pins s1 σ' H' D I' (hj σ' H' q)
  | .ret v, q => exact q
  | .brk, q => exact q
  | .cont, q => exact q
end J

/-! Joinside, steps: one lemma for each combinator of a reading, from the left. -/
namespace J
open PySem PySem.Spec L2
abbrev Sl := List (Option V)
section
variable {K : PySem.W.Frag} {σ : Sl} {H H1 H2 : Hp} {Q : VK} {ta tb tc te tv to ti : TE} {tt tu : TT} {tr : TA} {x y z v : V} {D : Ends} {t u : TS} {g : TG} {W : WX} {sp : Sp} {i n : Nat} {a b p C dx : Addr} {xs ys : List V} {k m : Int} {f : Str} {fs : List (Str × V)} {E : XK}
/-! ### expressions -/
theorem s_var (h : σ[i]? = some (some v)) (q : Q v H) : tVar i σ H Q := ⟨v, h, q⟩
theorem s_c (q : Q v H) : tC v σ H Q := q
theorem s_op {r : R2} (q : ta σ H fun x H1 => tb σ H1 fun y H2 => r x y H2 Q) : tOp r ta tb σ H Q := q
theorem s_un {r : V → Hp → VK → Prop} (q : ta σ H fun x H1 => r x H1 Q) : tUn r ta σ H Q := q
theorem s_I0 {g : Int → Int → V} (q : Q (g k m) H) : rI0 g (.int k) (.int m) H Q := ⟨_, _, rfl, rfl, q⟩
theorem s_I {C : Int → Int → Prop} {g : Int → Int → V} (c : C k m) (q : Q (g k m) H) : rI C g (.int k) (.int m) H Q := ⟨_, _, rfl, rfl, c, q⟩
theorem s_U {g : Int → V} (q : Q (g k) H) : rU g (.int k) H Q := ⟨_, rfl, q⟩
theorem s_test {Q : Bool → Hp → Prop} (q : te σ H fun x H' => ∃ c, x = .bl c ∧ Q c H') : tTest te σ H Q := q
theorem s_B {Q : Bool → Hp → Prop} (q : te σ H fun x H' => ∃ c, x = .bl c ∧ Q c H') : tB te σ H Q := q
theorem s_bl {c : Bool} {R : Bool → Prop} (q : R c) : ∃ d, V.bl c = .bl d ∧ R d := ⟨c, rfl, q⟩
theorem s_and {Q : Bool → Hp → Prop} (q : tt σ H fun c H1 => if c = true then tu σ H1 Q else Q false H1) : tAnd tt tu σ H Q := q
theorem s_or {Q : Bool → Hp → Prop} (q : tt σ H fun c H1 => if c = true then Q true H1 else tu σ H1 Q) : tOr tt tu σ H Q := q
theorem s_not {Q : Bool → Hp → Prop} (q : tt σ H fun c H1 => Q (!c) H1) : tNot tt σ H Q := q
theorem s_andV (q : ta σ H fun x H1 => ∃ c, x = .bl c ∧ if c = true then tb σ H1 Q else Q (.bl false) H1) : tAndV ta tb σ H Q := q
theorem s_orV (q : ta σ H fun x H1 => ∃ c, x = .bl c ∧ if c = true then Q (.bl true) H1 else tb σ H1 Q) : tOrV ta tb σ H Q := q
theorem s_notV (q : ta σ H fun x H1 => ∃ c, x = .bl c ∧ Q (.bl (!c)) H1) : tNotV ta σ H Q := q
theorem s_if (q : tt σ H fun c H1 => if c = true then ta σ H1 Q else tb σ H1 Q) : tIf tt ta tb σ H Q := q
theorem s_blV {c : Bool} {R : Bool → Prop} (q : R c) : ∃ d, V.bl c = .bl d ∧ R d := ⟨c, rfl, q⟩
theorem s_yes {A B : Prop} (q : A) : if true = true then A else B := by rw [if_pos rfl]; exact q
theorem s_no {A B : Prop} (q : B) : if false = true then A else B := by rw [if_neg Bool.false_ne_true]; exact q
theorem s_ite {c : Bool} {A B : Prop} (h1 : c = true → A) (h2 : c = false → B) : if c = true then A else B := by
  cases c with
  | true => exact s_yes (h1 rfl)
  | false => exact s_no (h2 rfl)
theorem s_then {c : Bool} {A B : Prop} (h : c = true) (q : A) : if c = true then A else B := by subst h; exact s_yes q
theorem s_else {c : Bool} {A B : Prop} (h : c = false) (q : B) : if c = true then A else B := by subst h; exact s_no q
/-- a test of ints decided by cases -/
theorem s_dec {c : Prop} [Decidable c] {A B : Prop} (h1 : c → A) (h2 : ¬ c → B) : if decide c = true then A else B := s_ite (fun h => h1 (of_decide_eq_true h)) fun h => h2 (of_decide_eq_false h)
theorem s_decN {c : Prop} [Decidable c] {A B : Prop} (h1 : ¬ c → A) (h2 : c → B) : if (!decide c) = true then A else B := s_ite (fun h => h1 (by simpa using h)) fun h => h2 (by simpa using h)
theorem s_chain {r r' : R2} (q : ta σ H fun x H1 => tb σ H1 fun y H2 => r x y H2 fun z H3 => ∃ k, z = .bl k ∧ if k = true then tc σ H3 fun v H4 => r' y v H4 Q else Q (.bl false) H3) : tChain r r' ta tb tc σ H Q := q
theorem s_cons {Q : List V → Hp → Prop} (q : te σ H fun x H1 => tr σ H1 fun xs H2 => Q (x :: xs) H2) : tCons te tr σ H Q := q
theorem s_nil {Q : List V → Hp → Prop} (q : Q [] H) : tNil σ H Q := q
theorem s_cb {r : List V → Hp → VK → Prop} (q : tr σ H fun vs H1 => r vs H1 Q) : tCB r tr σ H Q := q
theorem s_tup (q : tr σ H fun xs H1 => xs.length ≤ sizeLine ∧ ∀ p, H1 p = none → Q (.ref p) (upd H1 p (.tup xs))) : tTup tr σ H Q := q
theorem s_lst (q : tr σ H fun xs H1 => xs.length ≤ sizeLine ∧ ∀ p, H1 p = none → Q (.ref p) (upd H1 p (.lst xs))) : tLst tr σ H Q := q
theorem s_new {R : Addr → Prop} (h : n ≤ sizeLine) (q : ∀ p, H p = none → R p) : n ≤ sizeLine ∧ ∀ p, H p = none → R p := ⟨h, q⟩
/-- calls -/
theorem s_cl (q : tr σ H fun vs H1 => sp vs H1 Q fun cls d H' => W cls d σ H') : tCl sp W tr σ H Q := q
theorem s_cm {Dd : Addr → Sp → Prop} {m : Str} (q : to σ H fun x H1 => ∃ a C dx fs, x = .ref a ∧ H1 a = some (.ins C dx fs) ∧ fs.lookup m = none ∧ ∃ sp, Dd C sp ∧ tr σ H1 fun vs H2 => sp (x :: vs) H2 Q fun cls d H' => W cls d σ H') : tCm Dd m W to tr σ H Q := q
theorem s_mk (q : tr σ H fun vs H1 => ∀ x dx, H1 x = none → H1 dx = none → dx ≠ x → sp (.ref x :: vs) (upd (upd H1 dx (.own x)) x (.ins C dx [])) (fun v H2 => v = .non ∧ Q (.ref x) H2) fun cls d H' => W cls d σ H') : tMk C sp W tr σ H Q := q
/-- fields -/
theorem s_fld (q : ta σ H fun x H1 => ∃ a C dx fs v, x = .ref a ∧ H1 a = some (.ins C dx fs) ∧ Cls K C ∧ NoAttr K C f ∧ fs.lookup f = some v ∧ Q v H1) : tFld K ta f σ H Q := q
theorem s_fldE {R : V → Prop} (h : H a = some (.ins C dx fs)) (c : Cls K C) (no : NoAttr K C f) (l : fs.lookup f = some v) (q : R v) : ∃ a' C dx fs v, V.ref a = .ref a' ∧ H a' = some (.ins C dx fs) ∧ Cls K C ∧ NoAttr K C f ∧ fs.lookup f = some v ∧ R v := ⟨a, C, dx, fs, v, rfl, h, c, no, l, q⟩
theorem s_cmE {Dd : Addr → Sp → Prop} {m : Str} {R : Sp → Prop} (h : H a = some (.ins C dx fs)) (l : fs.lookup m = none) (d : Dd C sp) (q : R sp) : ∃ a' C dx fs, V.ref a = .ref a' ∧ H a' = some (.ins C dx fs) ∧ fs.lookup m = none ∧ ∃ sp, Dd C sp ∧ R sp := ⟨a, C, dx, fs, rfl, h, l, sp, d, q⟩
/-! ### statements -/
theorem s_seq (q : t { D with nx := u D } σ H) : tSeq t u D σ H := q
theorem s_next (q : D.nx σ H) : tNext D σ H := q
theorem s_brk (q : D.bk σ H) : tBreak D σ H := q
theorem s_cont (q : D.ct σ H) : tCont D σ H := q
theorem s_drop (q : te σ H fun _ H1 => D.nx σ H1) : tDrop te D σ H := q
theorem s_ret (q : te σ H D.rt) : tRet te D σ H := q
theorem s_retN (q : D.rt .non H) : tRetN D σ H := q
theorem s_ifS (q : tt σ H fun b H1 => if b = true then t D σ H1 else u D σ H1) : tIfS tt t u D σ H := q
theorem s_asg (q : te σ H fun x H1 => g x σ H1 D.nx) : tAsg te g D σ H := q
theorem s_name {Q : Sl → Hp → Prop} {σ' : Sl} (e : σ.set i (some v) = σ') (q : Q σ' H) : gName i v σ H Q := by subst e; exact q
theorem s_gtup {gs : TGs} {Q : Sl → Hp → Prop} (h : SqT K H a xs) (l : xs.length = n) (q : gs xs σ H Q) : gTup K n gs (.ref a) σ H Q := ⟨a, xs, rfl, h, l, q⟩
theorem s_gcons {gs : TGs} {Q : Sl → Hp → Prop} (q : g x σ H fun σ' H' => gs xs σ' H' Q) : gCons g gs (x :: xs) σ H Q := ⟨x, xs, rfl, q⟩
theorem s_gnil {Q : Sl → Hp → Prop} (q : Q σ H) : gNil [] σ H Q := ⟨rfl, q⟩
theorem s_gsub {ts : TSet} {Q : Sl → Hp → Prop} (q : to σ H fun o H1 => ti σ H1 fun i H2 => ts o i v H2 fun H3 => Q σ H3) : gSub to ti ts v σ H Q := q
theorem s_aug {tp : TIp} (h : σ[i]? = some (some x)) (q : te σ H fun y H1 => tp x y H1 fun z H2 => D.nx (σ.set i (some z)) H2) : tAug i te tp D σ H := ⟨x, h, q⟩
theorem s_augS {tg : V → V → Hp → VK → Prop} {tp : TIp} {ts : TSet} (q : to σ H fun o H1 => ti σ H1 fun i H2 => tg o i H2 fun x H3 => te σ H3 fun y H4 => tp x y H4 fun z H5 => ts o i z H5 fun H6 => D.nx σ H6) : tAugS to ti te tg tp ts D σ H := q
theorem s_sfld (q : tv σ H fun y H1 => ta σ H1 fun x H2 => ∃ a C dx fs, x = .ref a ∧ H2 a = some (.ins C dx fs) ∧ Cls K C ∧ NoAttr K C f ∧ fs.length < 1000 ∧ D.nx σ (upd H2 a (.ins C dx (putF f y fs)))) : sFld K ta tv f D σ H := q
theorem s_sfldE {R : Addr → Addr → Addr → List (Str × V) → Prop} (h : H a = some (.ins C dx fs)) (c : Cls K C) (no : NoAttr K C f) (l : fs.length < 1000) (q : R a C dx fs) : ∃ a' C dx fs, V.ref a = .ref a' ∧ H a' = some (.ins C dx fs) ∧ Cls K C ∧ NoAttr K C f ∧ fs.length < 1000 ∧ R a' C dx fs := ⟨a, C, dx, fs, rfl, h, c, no, l, q⟩
theorem s_seqJ {t u : TS} {D : Ends} {σ : Sl} {H : Hp} (I : Sl → Hp → Prop) (h1 : t { D with nx := I } σ H) (h2 : ∀ σ' H', I σ' H' → u D σ' H') : tSeqJ t u D σ H := ⟨I, h1, h2⟩
/-! ### slices -/
theorem s_sl {r : V → Option Int → Option Int → Hp → VK → Prop} {tl th : TO} (q : te σ H fun x H1 => tl σ H1 fun l H2 => th σ H2 fun u H3 => r x l u H3 Q) : tSl r te tl th σ H Q := q
theorem s_part {Q : Option Int → Hp → Prop} (q : te σ H fun x H1 => ∃ i, x = .int i ∧ Q (some i) H1) : tPart te σ H Q := q
theorem s_int {R : Int → Prop} (q : R k) : ∃ i, V.int k = .int i ∧ R i := ⟨k, rfl, q⟩
theorem s_nopart {Q : Option Int → Hp → Prop} (q : Q none H) : tNoPart σ H Q := q
/-! ### heaps -/
theorem up_old {o o' : HO} (hn : H p = none) (h : H a = some o) : upd H p o' a = some o := by rw [upd_ne (ne_of_none h hn)]; exact h
theorem up_ne {o o' : HO} (hn : a ≠ p) (h : H a = some o) : upd H p o' a = some o := by rw [upd_ne hn]; exact h
theorem up_free {o : HO} (hn : a ≠ p) (h : H a = none) : upd H p o a = none := by rw [upd_ne hn]; exact h
theorem free_of {o : HO} (h : upd H p o a = none) : H a = none := by
  by_cases e : a = p
  · subst e; rw [upd_same] at h; cases h
  · rw [upd_ne e] at h; exact h
theorem free_ne {o : HO} (h : upd H p o a = none) : a ≠ p := fun e => by subst e; rw [upd_same] at h; cases h
theorem same_at {o : HO} (s : Same H H1) (h : H a = some o) : H1 a = some o := s a o h
theorem same_free (s : Same H H1) (h : H1 a = none) : H a = none := s.free h
theorem Same.new {o : HO} (h : H p = none) : Same H (upd H p o) := fun b u e => up_old h e
theorem Same.more {o : HO} (s : Same H H1) (h : H1 p = none) : Same H (upd H1 p o) := s.trans (Same.new h)
theorem Same.mut {o : HO} (s : Same H H1) (h : H p = none) : Same H (upd H1 p o) := fun b u e => up_ne (ne_of_none e h) (s b u e)
theorem Same.sqT {xs : List V} (e : Same H H1) (h : SqT K H a xs) : SqT K H1 a xs := by
  rcases h with (h | ⟨o, h⟩) | h
  · exact .inl (.inl (e _ _ h))
  · exact .inl (.inr ⟨o, e _ _ h⟩)
  · exact .inr h
theorem sqL_upd {o : HO} (hn : a ≠ p) (h : SqL K H a xs) : SqL K (upd H p o) a xs := by
  rcases h with (h | ⟨u, h⟩) | h
  · exact .inl (.inl (up_ne hn h))
  · exact .inl (.inr ⟨u, up_ne hn h⟩)
  · exact .inr h
end
end J

/-! Joinside, rules: what stands at a value (Th), isinstance, repr, == and in, exceptions that are kept. -/
namespace J
open PySem PySem.Spec PyProof.Rows L2

/-! ### built-in kinds of things -/
inductive Th (K : PySem.W.Frag) (H : Hp) : V → String → Prop where
  | non : Th K H .non "NoneType"
  | bl (b : Bool) : Th K H (.bl b) "bool"
  | int (i : Int) : Th K H (.int i) "int"
  | str (x : Str) : Th K H (.str x) "str"
  | lst {a : Addr} {xs : List V} (e : H a = some (.lst xs)) : Th K H (.ref a) "list"
  | frz {a : Addr} {o : Obj} {xs : List V} (e : H a = some (.frz o (.lst xs))) : Th K H (.ref a) "list"
  | tup {a : Addr} {xs : List V} (e : H a = some (.tup xs)) : Th K H (.ref a) "tuple"
  | dK {a : Addr} {kvs : List (Key × V)} (e : H a = some (.dK kvs)) : Th K H (.ref a) "dict"
  | dT {a : Addr} {kvs : List (List Key × V)} (e : H a = some (.dT kvs)) : Th K H (.ref a) "dict"
theorem Th.ty {K : PySem.W.Frag} {H : Hp} {x : V} {n : String} (h : Th K H x n) : TyX K H x (.type n) := by
  cases h with
  | non => exact .base .non
  | bl b => exact .base (.bl b)
  | int i => exact .base (.int i)
  | str x => exact .base (.str x)
  | lst e => exact .base (.lst e)
  | frz e => exact .base (.frz e)
  | tup e => exact .base (.tup e)
  | dK e => exact .base (.dK e)
  | dT e => exact .base (.dT e)
theorem Th.same {K : PySem.W.Frag} {H H' : Hp} {x : V} {n : String} (s : Same H H') (h : Th K H x n) : Th K H' x n := by
  cases h with
  | non => exact .non
  | bl b => exact .bl b
  | int i => exact .int i
  | str x => exact .str x
  | lst e => exact .lst (s _ _ e)
  | frz e => exact .frz (s _ _ e)
  | tup e => exact .tup (s _ _ e)
  | dK e => exact .dK (s _ _ e)
  | dT e => exact .dT (s _ _ e)
/-- whether a thing of kind n is one of T -/
def isB (n T : String) : Bool := n == T || (n == "bool" && T == "int")
def kinds : List String := ["NoneType", "bool", "int", "str", "list", "tuple", "dict"]
theorem Th.kind {K : PySem.W.Frag} {H : Hp} {x : V} {n : String} (h : Th K H x n) : n ∈ kinds := by
  cases h <;> simp [kinds]
theorem kit_tab : ∀ n ∈ kinds, ∀ T ∈ kinds, (fastBuiltinMro n).map (·.contains (.type T)) = some (isB n T) ∧ PySem.W.kitMeta T = true := by decide +kernel
theorem kit_is {K : PySem.W.Frag} {n T : String} (hn : n ∈ kinds) (hT : T ∈ kinds) : PySem.W.kitOne K (.type n) (.type T) = some (isB n T) := by
  obtain ⟨h1, h2⟩ := kit_tab n hn T hT
  unfold PySem.W.kitOne
  by_cases e : (Value.type n == Value.type T) = true
  · have e' : n = T := by
      have := eq_of_beq e
      injection this
    subst e'
    rw [if_pos e]
    simp [isB]
  · rw [if_neg e]
    show (if PySem.W.kitMeta T = true then PySem.W.subIn K (.type n) (.type T) else none) = _
    rw [if_pos h2]
    exact h1

/-! ### exceptions that are kept -/
/-- an exception of the class cls, its own dict at d, at a -/
def ExR (cls : Value) (d : Option Addr) (a : Addr) : HO := .ext fun h => ∃ (oe : Obj) (vs : Array Value), h.get? a = some oe ∧ Zc cls d oe ∧ oe.data = .fields vs
theorem exR_ok {P : Program} {w : World} {H : Hp} {h : Heap} {a : Addr} {cls : Value} {d : Option Addr} {oe : Obj} {vs : Array Value} (e : h.get? a = some oe) (z : Zc cls d oe) (f : oe.data = .fields vs) : ObjOk P w H h a (ExR cls d a) :=
  ⟨⟨oe, vs, e, z, f⟩, ⟨oe, e⟩, fun _ _ ⟨o, v, q, r⟩ k => ⟨o, v, k o q, r⟩⟩
/-- isinstance(e, c), e an exception that is kept, without a dict of its own -/
def rIsK (K : PySem.W.Frag) : List V → Hp → VK → Prop := fun xs H Q => ∃ (a D : Addr) (c : V) (u : Value) (b : Bool), xs = [.ref a, c] ∧ ClsV c u ∧ H a = some (ExR (.ref D) none a) ∧ ExcC K D ∧ PySem.W.kitOne K (.ref D) u = some b ∧ Q (.bl b) H
theorem call_isK {X : Cx} : CallR X (.builtin "isinstance") (rIsK X.K) := by
  intro pins s σ H xs us Q I r h
  obtain ⟨a, D, c, u, b, rfl, k, ha, C, e, q⟩ := h
  obtain ⟨u1, u2, rfl, r1, r2⟩ := vals2 r
  obtain rfl : u1 = Value.ref a := r1
  have e2 := k.eq r2
  subst e2
  obtain ⟨⟨oe, vs, hget, hz, hv⟩, _, _⟩ := I.hok a _ ha
  have at_a : PySem.W.InstAt s.heap a oe D none := by
    obtain ⟨oc, od, oda, osl⟩ := oe
    obtain ⟨h1, h2⟩ := hz
    dsimp only at h1 h2 hv
    subst h1 h2 hv
    exact ⟨hget, rfl, rfl, trivial⟩
  refine PySem.W.kia_one (PySem.W.handS_kitx_exc C.hg C.hk C.hs C.hd C.ha C.hn C.ht C.hm) I.kIn at_a e (fun z => nomatch z) ?_
  intro tk
  exact ⟨.bl b, H, I.kept (t' := tk) fun _ _ z => z, rfl, q⟩
def rIs (K : PySem.W.Frag) : List V → Hp → VK → Prop := fun xs H Q => rIsi K xs H Q ∨ rIsK K xs H Q
theorem call_is {X : Cx} : CallR X (.builtin "isinstance") (rIs X.K) := call_isi.or call_isK
section
variable {K : PySem.W.Frag} {H : Hp} {Q : VK} {x c : V} {n T : String} {a C D dx : Addr} {b : Bool} {u : Value} {fs : List (Str × V)}
theorem s_is (h : Th K H x n) (hT : T ∈ kinds) (q : Q (.bl (isB n T)) H) : rIs K [x, .ty T] H Q := .inl ⟨x, .ty T, _, _, _, rfl, .ty T, h.ty, kit_is h.kind hT, q⟩
theorem s_isOwn {t : Value} (h : TyX K H x t) (k : ClsV c u) (e : PySem.W.kitOne K t u = some b) (q : Q (.bl b) H) : rIs K [x, c] H Q := .inl ⟨x, c, _, _, _, rfl, k, h, e, q⟩
theorem s_isExc (h : H a = some (ExR (.ref D) none a)) (hC : ExcC K D) (k : ClsV c u) (e : PySem.W.kitOne K (.ref D) u = some b) (q : Q (.bl b) H) : rIs K [.ref a, c] H Q := .inr ⟨a, D, c, u, b, rfl, k, h, hC, e, q⟩
end

/-! ### repr -/
def rRepr (K : PySem.W.Frag) : List V → Hp → VK → Prop := fun xs H Q => ∃ (a : Addr) (d : PyData), xs = [.ref a] ∧ Dp K H (.ref a) d ∧ d.showable = true ∧ d.depth ≤ 100 ∧ d.shown.length ≤ sizeLine ∧ Q (.str d.shown) H
mutual
theorem noDict {K : PySem.W.Frag} {H : Hp} : ∀ (d : PyData) (v : V), Dp K H v d → d.hasDict = false
  | .none, _, _ => by simp only [PyData.hasDict]
  | .bool _, _, _ => by simp only [PyData.hasDict]
  | .int _, _, _ => by simp only [PyData.hasDict]
  | .str _, _, _ => by simp only [PyData.hasDict]
  | .list ds, _, h => by
    cases h with
    | lst _ ha =>
      simp only [PyData.hasDict]
      exact noDictAll ds _ ha
  | .tuple ds, _, h => by
    cases h with
    | tup _ ha =>
      simp only [PyData.hasDict]
      exact noDictAll ds _ ha
  | .dict _, _, h => by cases h
theorem noDictAll {K : PySem.W.Frag} {H : Hp} : ∀ (ds : List PyData) (vs : List V), DpAll K H vs ds → PyData.hasDictAll ds = false
  | [], _, _ => by simp only [PyData.hasDictAll]
  | d :: ds, _, h => by
    cases h with
    | cons h1 h2 => simp only [PyData.hasDictAll, noDict d _ h1, noDictAll ds _ h2, Bool.or_false]
end
theorem call_repr {X : Cx} (hG : X.A.guards = some []) (hu : X.A.units + 200 < cLine) : CallR X (.builtin "repr") (rRepr X.K) := by
  intro pins s σ H xs us Q I r h
  obtain ⟨a, d, rfl, hd, hs, hdp, hz, q⟩ := h
  obtain ⟨u, rfl, ru⟩ := vals1 r
  obtain rfl : u = Value.ref a := ru
  obtain ⟨as, rd⟩ := Dp.reads I d (.ref a) (.ref a) hd rfl
  refine repr_of_reads' (h₀ := s.heap) rd hs (fun h2 => absurd (noDict d _ hd) (by rw [h2]; decide)) hG (by omega) (fun _ _ e => e) ?_ hz
  intro h' u tk keep
  exact ⟨.str d.shown, H, I.kept (t' := tk) keep, ⟨u, rfl⟩, q⟩
theorem s_repr {K : PySem.W.Frag} {H : Hp} {Q : VK} {a : Addr} {d : PyData} (hd : Dp K H (.ref a) d) (hs : d.showable = true) (hp : d.depth ≤ 100) (hz : d.shown.length ≤ sizeLine) (q : Q (.str d.shown) H) : rRepr K [.ref a] H Q := ⟨a, d, rfl, hd, hs, hp, hz, q⟩

/-! ### == and != -/
def rEqA (K : PySem.W.Frag) : R2 := fun x y H Q => rEq x y H Q ∨ rEqD K x y H Q
def rNeA (K : PySem.W.Frag) : R2 := fun x y H Q => rNe x y H Q ∨ rNeD K x y H Q
theorem op_eqA {X : Cx} (hu : X.A.units + 64 < cLine) : OpR X (compareOp .Eq) (rEqA X.K) := op_eq.or (op_eqD hu)
theorem op_neA {X : Cx} (hu : X.A.units + 64 < cLine) : OpR X (compareOp .NotEq) (rNeA X.K) := op_ne.or (op_neD hu)
section
variable {K : PySem.W.Frag} {H : Hp} {Q : VK} {x y : V} {d e : PyData}
theorem s_eq (h : scal x y = true) (q : Q (.bl (decide (x = y))) H) : rEqA K x y H Q := .inl ⟨h, q⟩
theorem s_ne (h : scal x y = true) (q : Q (.bl (!decide (x = y))) H) : rNeA K x y H Q := .inl ⟨h, q⟩
theorem s_eqI {i j : Int} (q : Q (.bl (decide (i = j))) H) : rEqA K (.int i) (.int j) H Q := .inl ⟨rfl, by rw [dec_int, Bool.beq_eq_decide_eq]; exact q⟩
theorem s_neI {i j : Int} (q : Q (.bl (!decide (i = j))) H) : rNeA K (.int i) (.int j) H Q := .inl ⟨rfl, by rw [dec_int, Bool.beq_eq_decide_eq]; exact q⟩
theorem s_eqS {i j : Str} (q : Q (.bl (decide (i = j))) H) : rEqA K (.str i) (.str j) H Q := .inl ⟨rfl, by rw [dec_str, Bool.beq_eq_decide_eq]; exact q⟩
theorem s_neS {i j : Str} (q : Q (.bl (!decide (i = j))) H) : rNeA K (.str i) (.str j) H Q := .inl ⟨rfl, by rw [dec_str, Bool.beq_eq_decide_eq]; exact q⟩
theorem s_eqD (h1 : Dp K H x d) (h2 : Dp K H y e) (s1 : SeqAt.shaped d = true) (s2 : SeqAt.shaped e = true) (q : Q (.bl (PyData.eqv d e)) H) : rEqA K x y H Q := .inr ⟨d, e, h1, h2, s1, s2, q⟩
theorem s_neD (h1 : Dp K H x d) (h2 : Dp K H y e) (s1 : SeqAt.shaped d = true) (s2 : SeqAt.shaped e = true) (q : Q (.bl (!PyData.eqv d e)) H) : rNeA K x y H Q := .inr ⟨d, e, h1, h2, s1, s2, q⟩
end

/-! ### + and * -/
def rAddA (K : PySem.W.Frag) : R2 := fun x y H Q => ((∃ i j, x = .int i ∧ y = .int j ∧ Q (.int (i + j)) H) ∨ (∃ i j, x = .str i ∧ y = .str j ∧ i.length + j.length ≤ sizeLine ∧ Q (.str (i ++ j)) H)) ∨ (rCat x y H Q ∨ rCatA K x y H Q)
theorem op_addA {X : Cx} : OpR X (binaryOp .Add) (rAddA X.K) := (op_add.or op_add_str).or (op_cat.or op_catA)
def rMulA (K : PySem.W.Frag) : R2 := fun x y H Q => rI CMul (fun i j => .int (i * j)) x y H Q ∨ rRep x y H Q
theorem op_mulA {X : Cx} : OpR X (binaryOp .Mult) (rMulA X.K) := op_mul.or op_rep
section
variable {K : PySem.W.Frag} {H : Hp} {Q : VK} {a b : Addr} {xs ys : List V} {i j k : Int} {x y : Str}
theorem s_addI (q : Q (.int (i + j)) H) : rAddA K (.int i) (.int j) H Q := .inl (.inl ⟨i, j, rfl, rfl, q⟩)
theorem s_addS (hz : x.length + y.length ≤ sizeLine) (q : Q (.str (x ++ y)) H) : rAddA K (.str x) (.str y) H Q := .inl (.inr ⟨x, y, rfl, rfl, hz, q⟩)
theorem s_addL (ha : H a = some (.lst xs)) (hb : H b = some (.lst ys)) (hz : xs.length + ys.length ≤ sizeLine) (q : ∀ p, H p = none → Q (.ref p) (upd H p (.lst (xs ++ ys)))) : rAddA K (.ref a) (.ref b) H Q := .inr (.inl ⟨a, b, xs, ys, rfl, rfl, ha, hb, hz, q⟩)
theorem s_mulI (h : CMul i j) (q : Q (.int (i * j)) H) : rMulA K (.int i) (.int j) H Q := .inl ⟨i, j, rfl, rfl, h, q⟩
theorem s_mulL (ha : H a = some (.lst xs)) (h1 : -(2 ^ 63) ≤ k) (h2 : k < 2 ^ 63) (hz : xs.length * k.toNat ≤ sizeLine) (q : ∀ p, H p = none → Q (.ref p) (upd H p (.lst (List.replicate k.toNat xs).flatten))) : rMulA K (.ref a) (.int k) H Q := .inr ⟨a, k, xs, rfl, rfl, ha, h1, h2, hz, q⟩
end
end J
namespace J
open PySem PySem.Spec PyProof.Rows L2
section
variable {K : PySem.W.Frag} {C D : Addr} {b : Bool}
theorem kit_own (h1 : PySem.W.isClsIn K C = true) (h2 : PySem.W.typeIn K (.ref C) = some (.type "type")) (h0 : PySem.W.subIn K (.ref C) (.ref C) = some true) (h3 : PySem.W.subIn K (.ref D) (.ref C) = some b) : PySem.W.kitOne K (.ref D) (.ref C) = some b := by
  unfold PySem.W.kitOne
  by_cases e : (Value.ref D == Value.ref C) = true
  · have e' : D = C := by
      have := eq_of_beq e
      injection this
    subst e'
    rw [if_pos e]
    exact h0.symm.trans h3
  · rw [if_neg e]
    have h1' : (PySem.W.clsIn K C).isSome = true := h1
    show (if ((PySem.W.clsIn K C).isSome && PySem.W.typeIn K (.ref C) == some (.type "type")) = true then PySem.W.subIn K (.ref D) (.ref C) else none) = _
    rw [h1', h2]
    exact h3
theorem kit_val (h3 : PySem.W.subIn K (.ref D) (.type "ValueError") = some b) : PySem.W.kitOne K (.ref D) (.type "ValueError") = some b := by
  have m : PySem.W.kitMeta "ValueError" = true := by decide +kernel
  show (if (Value.ref D == Value.type "ValueError") = true then some true else if PySem.W.kitMeta "ValueError" = true then PySem.W.subIn K (.ref D) (.type "ValueError") else none) = _
  rw [if_neg (by intro z; have := eq_of_beq z; cases this), m, if_pos rfl]
  exact h3
theorem exm_own (h0 : PySem.W.subIn K (.ref C) (.type "BaseException") = some true) (hd : PySem.W.hasDictIn K C = true) (h2 : PySem.W.typeIn K (.ref C) = some (.type "type")) (h3 : PySem.W.subIn K (.ref D) (.ref C) = some b) : PySem.W.exmOne K (.ref D) (.ref C) = some b := PySem.W.exm_ref h0 hd h2 h3
/-- what isinstance asks of an instance's class -/
structure IsC (K : PySem.W.Frag) (C : Addr) : Prop where
  ha : PySem.W.findIn K (.ref C) "__class__" = some (some (.builtin "object.__class__"))
  hn : PySem.W.specialIn K (.builtin "object.__class__") "__get__" = some (some (.builtin "getset_descriptor.__get__"))
  ht : PySem.W.takesIn K (.builtin "object.__class__") = some true
  hm : PySem.W.mroIn K C (.type "object") = some true
end
/-! ### rooms, built-in names -/
theorem room65 {k : Nat} {A : Around} (r : Room k A) : A.units + 65 < cLine := by have := r.un; omega
theorem room200 {k : Nat} {A : Around} (r : Room k A) : A.units + 200 < cLine := by have := r.un; omega
theorem bt_len : bootBuiltins "len" = some (.builtin "len") := by decide +kernel
theorem bt_isinstance : bootBuiltins "isinstance" = some (.builtin "isinstance") := by decide +kernel
theorem bt_repr : bootBuiltins "repr" = some (.builtin "repr") := by decide +kernel
theorem bt_sorted : bootBuiltins "sorted" = some (.builtin "sorted") := by decide +kernel
theorem bt_min : bootBuiltins "min" = some (.builtin "min") := by decide +kernel
theorem bt_max : bootBuiltins "max" = some (.builtin "max") := by decide +kernel
theorem bt_sum : bootBuiltins "sum" = some (.builtin "sum") := by decide +kernel
theorem bt_all : bootBuiltins "all" = some (.builtin "all") := by decide +kernel
theorem bt_int : bootBuiltins "int" = some (.type "int") := by decide +kernel
theorem bt_bool : bootBuiltins "bool" = some (.type "bool") := by decide +kernel
theorem bt_str : bootBuiltins "str" = some (.type "str") := by decide +kernel
theorem bt_list : bootBuiltins "list" = some (.type "list") := by decide +kernel
theorem bt_tuple : bootBuiltins "tuple" = some (.type "tuple") := by decide +kernel
theorem bt_dict : bootBuiltins "dict" = some (.type "dict") := by decide +kernel
theorem bt_set : bootBuiltins "set" = some (.type "set") := by decide +kernel
theorem bt_ValueError : bootBuiltins "ValueError" = some (.type "ValueError") := by decide +kernel
/-! ### more unions -/
/-- a = is the only class that has the method -/
def One (C0 : Addr) (sp0 : Sp) : Addr → Sp → Prop := fun C sp => C = C0 ∧ sp = sp0
theorem one_me {P : Program} {w : World} {K : PySem.W.Frag} {mg : Str → Option Value} {base : Heap} {k : Nat} {C0 : Addr} {m : Str} {sp0 : Sp} (h : MethG P w K mg base k C0 m sp0) : ∀ C sp, One C0 sp0 C sp → MethG P w K mg base k C m sp := by
  rintro C sp ⟨rfl, rfl⟩
  exact h
section
variable {X : Cx}
def rLenA (K : PySem.W.Frag) : List V → Hp → VK → Prop := fun xs H Q => (∃ p ys, xs = [.ref p] ∧ (SqL K H p ys ∨ SqT K H p ys) ∧ Q (.int ys.length) H) ∨ (∃ z, xs = [.str z] ∧ z.length ≤ sizeLine ∧ Q (.int z.length) H)
theorem s_lenL {K : PySem.W.Frag} {H : Hp} {Q : VK} {a : Addr} {xs : List V} (h : SqL K H a xs ∨ SqT K H a xs) (q : Q (.int xs.length) H) : rLenA K [.ref a] H Q := .inl ⟨a, xs, rfl, h, q⟩
theorem s_lenS {K : PySem.W.Frag} {H : Hp} {Q : VK} {z : Str} (h : z.length ≤ sizeLine) (q : Q (.int z.length) H) : rLenA K [.str z] H Q := .inr ⟨z, rfl, h, q⟩
theorem call_lenA : CallR X (.builtin "len") (rLenA X.K) := call_len_seq.or call_len_str
def rIxN (K : PySem.W.Frag) : V → V → Hp → VK → Prop := fun x y H Q => ∃ (p : Addr) (xs : List V) (i : Nat) (v : V), x = .ref p ∧ y = .int i ∧ SqL K H p xs ∧ xs[i]? = some v ∧ Q v H
theorem get_list : PGet X (rIxN X.K) := by
  intro pins s σ H x y v u Q I rx ry h
  obtain ⟨p, xs, i, v', rfl, rfl, hs, h2, q⟩ := h
  obtain rfl : v = Value.ref p := rx
  obtain ⟨t, rfl⟩ := ry
  obtain ⟨its, rv, pl, hz⟩ := I.list hs
  obtain ⟨u', hu, ru⟩ := rv.get h2
  have hl : i < xs.length := (List.getElem?_eq_some_iff.mp h2).1
  have hn := line63
  exact wpAny_getItem_list pl.isList (by omega) (by omega) (by simpa using hu) ⟨v', H, I, ru, q⟩
end
end J

/-! Joinside, try .. except X as n: m = n: the exception is kept, tracked at its address. -/
namespace J
open PySem PySem.Spec PyProof.Rows L2
section
variable {X : Cx} {pins : List (Addr × Obj)} {σ : L2.St} {H : Hp} {s : Shared}
theorem Inv.track {a : Addr} {o : HO} {oe : Obj} {vs : Array Value} (I : L2.Inv X pins σ H s) (ha : s.heap.get? a = some oe) (hd : oe.data = .fields vs) (na : H a = none) (n0 : X.s_0.heap.get? a = none) (nL : a ≠ X.env.locals) (np : ∀ p ∈ X.pn ++ pins, p.1 ≠ a)
    (new : ObjOk X.prog X.w (upd H a o) s.heap a o) : L2.Inv X pins σ (upd H a o) s := by
  have old : ∀ b u, H b = some u → upd H a o b = some u := fun b u e => up_old na e
  have b0 : ∀ b u, X.s_0.heap.get? b = some u → b ≠ a := fun b u e q => by rw [q, n0] at e; cases e
  have nc : ∀ x c, X.env.cells.lookup x = some c → c ≠ a := by
    intro x c e q
    obtain ⟨v, oc, hoc, hcd⟩ := I.cell x c e
    rw [q, ha] at hoc
    injection hoc with hoc
    rw [← hoc, hd] at hcd
    cases hcd
  constructor
  · exact I.ok
  · exact I.os
  · exact I.bare
  · constructor
    · exact I.base.keep
    · exact I.base.slot
    · intro b u e n hx
      exact up_free (b0 b u e) (I.base.free b u e n hx)
    · exact I.base.there
    · exact fun b xs e => old b _ (I.base.tups b xs e)
    · exact fun b u xs e => old b _ (I.base.frzs b u xs e)
    · intro b ps e
      obtain ⟨m, q⟩ := I.base.tbls b ps e
      exact ⟨m, old b _ q⟩
  · exact I.loc
  · exact I.cell
  · exact up_free (Ne.symm nL) I.free
  · exact fun x c e => up_free (nc x c e) (I.freeC x c e)
  · intro p hp
    obtain ⟨e, n, r⟩ := I.pin p hp
    exact ⟨e, up_free (np p hp) n, r⟩
  · intro b u e
    by_cases hb : b = a
    · subst hb
      rw [upd_same] at e
      cases e
      exact new
    · rw [upd_ne hb] at e
      exact (I.hok b u e).stay (fun c v _ q => q) (fun c q => old c _ q) fun c xs q => old c _ q
  · exact I.len
end
/-- what the clause 'except x as n: m = n' wishes of an exception: slot i is n's -/
def wKeep (K : PySem.W.Frag) (c : Value) (i j : Nat) (Wout : WX) (D : Ends) : WX := fun cls d σ H =>
  ∃ b, PySem.W.exmOne K cls c = some b ∧ (b = true → ∀ a, H a = none → D.nx ((σ.set j (some (.ref a))).set i none) (upd H a (ExR cls d a))) ∧ (b = false → Wout cls d σ H)
def tTryK (K : PySem.W.Frag) (c : Value) (i j : Nat) (Wout : WX) (tb : WX → TS) : TS := fun D σ H => tb (wKeep K c i j Wout D) D σ H
theorem ps_try_keep {X : Cx} {x n m : Str} {c : Value} {i j : Nat} {body : List Stmt} {np pos pos' pm pn2 pa : Pos} {tb : WX → TS} {Wout : WX} (hs : X.stack = X.env :: X.outer) (hf : X.env.frame = some X.env.locals) (hex : X.ex = []) (hN : X.N.Nodup)
    (hi : X.N[i]? = some n) (hln : X.env.kindOf n = some .local) (hj : X.N[j]? = some m) (hlm : X.env.kindOf m = some .local) (hij : i ≠ j) (hc : Names X x c) (tk : Takes X Wout)
    (hsw : swapsWith (.Name n pn2) (some (.Name m pm)) pa.line X.env = pure false)
    (hb : ∀ (W : WX) (pn : List (Addr × Obj)) (xe : Value → Shared → Prop), Takes (X.tr pn xe) W → PassesOwn (model X.prog X.w) X.A X.env xe → PSs (X.tr pn xe) body (tb W))
    (hdn : (n == ("__debug__" : Str)) = false := by decide) (hcn : (n == ("__classdict__" : Str)) = false := by decide) :
    PS X (.Try body [.ExceptHandler (some (.Name x np)) (some n) [.Assign [.Name m pm] (.Name n pn2) pa] pos'] [] [] pos) (tTryK X.K c i j Wout tb) := by
  constructor
  intro pins s σ H D I h
  have ok := I.ok
  have frames_eq : X.A.frames = some (X.env :: X.outer) := by rw [ok.frames, hs]
  apply wpAny_Try_except
  have run := (hb (wKeep X.K c i j Wout D) (X.pn ++ pins) (fun e s₁ => wpAny (model X.prog X.w) X.A (noteFrame e X.env) (fun _ s₂ => wpAny (model X.prog X.w) X.A (setFlight e none) (fun _ s₃ =>
    wpAny (model X.prog X.w) X.A (handleBy e X.env [.ExceptHandler (some (.Name x np)) (some n) [.Assign [.Name m pm] (.Name n pn2) pa] pos']) (SP X pins D) X.xe s₃) X.xe s₂) X.xe s₁) ?takes PassesOwn.looking).run [] s σ H D (I.toTry _) h
  case takes =>
    rintro u s' ⟨a, B, sI, pins', σ', H', cls, d, rfl, J', nb, up, sky, na, os, ag, b, hb1, hyes, hno⟩
    have J : L2.Inv X pins σ' H' sI := J'.ofTry ok
    have sky' : Sky B (X.env :: X.outer) a (Zc cls d) X.env.locals s'.heap := by rw [← hs]; exact sky
    refine Sky.land Zc.steady frames_eq hf sky' ?_
    intro h3 fl3 up3
    have J3 : L2.Inv X pins σ' H' { s' with heap := h3 } := J.landed nb fl3.1 (up.trans up3) os ag
    obtain ⟨oe3, vs3, he3, hz3, hd3⟩ := fl3.there
    have outF : a ∉ frs (X.env :: X.outer) := by
      intro hm
      obtain ⟨_, o', e', hnf⟩ := fl3.2.2.1.mem hm
      rw [he3] at e'
      injection e' with e'
      subst e'
      exact hnf _ hd3
    have outL : a ≠ X.env.locals := fun z => outF (List.mem_filterMap.mpr ⟨X.env, List.mem_cons_self, by rw [hf, z]⟩)
    have outO : a ∉ X.fs := by
      intro hm
      obtain ⟨e, he, q⟩ := List.mem_filterMap.mp hm
      exact outF (List.mem_filterMap.mpr ⟨e, List.mem_cons_of_mem _ he, q⟩)
    have noB : B.get? a = none := fl3.2.1
    have noI : ∀ o, sI.heap.get? a ≠ some o := by
      intro o e
      have z := nb a o e (by rw [hs]; exact outF)
      rw [noB] at z
      cases z
    have no0 : X.s_0.heap.get? a = none := by
      cases e : X.s_0.heap.get? a with
      | none => rfl
      | some o =>
        obtain ⟨o', z⟩ := J.base.there a o e (by rw [hex]; exact List.not_mem_nil)
        exact absurd z (noI o')
    have noP : ∀ p ∈ X.pn ++ pins, p.1 ≠ a := fun p hp z => noI p.2 (by rw [← z]; exact (J.pin p hp).1)
    have S3 := J3.suite he3 hd3 na outL outO
    refine wpAny_handleBy_cons (codeAny_handlers_test ?_) (by intro q; cases q)
    have kind_of : PySem.W.Looks (model X.prog X.w) h3 (typeOf (.ref a)) cls := by
      intro A Q E s k q
      exact wpAny_typeOf_ref (k _ _ he3) (by rw [hz3.1]; exact q)
    have isIt := PySem.W.exm_one (M := model X.prog X.w) J3.kIn kind_of hb1
    have ask : ∀ {Q : Value → Shared → Prop} {E : Value → Shared → Prop}, Q c { s' with heap := h3 } → wpAny (model X.prog X.w) (X.A.mark (some (.ref a))) (eval (.Name x np) X.env) Q E { s' with heap := h3 } := by
      intro Q E q
      obtain ⟨hg, hdbg, hm | ⟨hm, hv, hnn⟩⟩ := hc
      · exact ld_glob (X := X.suite a ((a, oe3) :: (X.pn ++ pins))) S3 hg hm q hdbg
      · exact ld_blt (X := X.suite a ((a, oe3) :: (X.pn ++ pins))) S3 hg hm hv q hnn hdbg
    refine ask (isIt.here ?_)
    cases b with
    | true =>
      apply codeAny_handlers_suite_as
      refine HandSPX.lands_againZ fl3 ?_
      intro h4 fl4 up4
      have J4 : L2.Inv X pins σ' H' { s' with heap := h4 } := J.landed nb fl4.1 ((up.trans up3).trans up4) os ag
      obtain ⟨oe4, vs4, he4, hz4, hd4⟩ := fl4.there
      have S4 := J4.suite he4 hd4 na outL outO
      have nd : (X.suite a ((a, oe4) :: (X.pn ++ pins))).N.Nodup := hN
      refine store_ok (X := X.suite a ((a, oe4) :: (X.pn ++ pins))) (v := .ref a) S4 nd hi (.inl hln) rfl ?_ (.inr hln)
      intro s5 S5
      have iLt : i < σ'.length := by rw [J4.len]; exact (List.getElem?_eq_some_iff.mp hi).1
      have here : PSs (X.suite a ((a, oe4) :: (X.pn ++ pins))) [.Assign [.Name m pm] (.Name n pn2) pa] (tAsg (tVar i) (gName j)) := pss_one (ps_set nd hj (.inl hlm) (pe_var hi (.inl hln) hdn hcn) hsw (.inr hlm))
      refine wpAny_mono (here.run [] s5 _ H' { nx := fun σ6 H6 => σ6 = (σ'.set i (some (.ref a))).set j (some (.ref a)) ∧ H6 = H', rt := fun _ _ => False } S5 ⟨.ref a, by rw [List.getElem?_set_self iLt], rfl, rfl⟩) ?_ (fun _ _ z => False.elim z)
      intro f s6 got
      match f, got with
      | .ret _, ⟨_, _, _, _, _, z⟩ => exact z.elim
      | .brk, ⟨_, _, _, z⟩ => exact z.elim
      | .cont, ⟨_, _, _, z⟩ => exact z.elim
      | .next, ⟨σ6, H6, S6, e6, eH⟩ =>
        subst e6 eH
        refine gone_ok (X := X.suite a ((a, oe4) :: (X.pn ++ pins))) S6 nd hi hln ?_
        intro s7 S7
        obtain ⟨at7, n7, _⟩ := S7.pin (a, oe4) (List.mem_append_left _ List.mem_cons_self)
        have J7 : L2.Inv X pins (((σ'.set i (some (.ref a))).set j (some (.ref a))).set i none) H6 s7 := S7.unsuite ok
        have J8 := Inv.track (o := ExR cls d a) J7 at7 hd4 n7 no0 outL noP (exR_ok at7 hz4 hd4)
        refine ⟨_, _, J8, ?_⟩
        have q := hyes rfl a na
        rw [List.set_comm _ _ hij, List.set_set]
        exact q
    | false =>
      show wpAny _ X.A (handleBy (.ref a) X.env []) _ _ _
      apply wpAny_handleBy_nil
      obtain ⟨k1, k2, k3, oe, vs, T, oT, ts', he, hz, hd, h1, hr⟩ := id fl3
      unfold PySem.passOn
      refine wpAny_bind (wpAny_field he hd h1 ?_)
      rw [if_neg (show ¬ ((Value.ref T == Value.none) = true) from by simp)]
      have onward : wpAny (model X.prog X.w) X.A (setFlight (.ref a) X.env.frame) (fun _ s4 => wpAny (model X.prog X.w) X.A (throw (.ref a) : Sem Flow) (SP X pins D) X.xe s4) X.xe { s' with heap := h3 } := by
        rw [hf]
        refine HandSPX.setFlight_upZ fl3 ?_
        intro h4 hh4 up4
        exact wpAny_throw (tk _ _ ⟨a, B, sI, pins, σ', H', cls, d, rfl, J, nb, (up.trans up3).trans up4, .inr (.inr (by rw [hs]; exact hh4)), na, os, ag, hno rfl⟩)
      first
        | exact wpAny_bind (wpAny_pure (wpAny_bind onward))
        | exact wpAny_bind onward
  refine wpAny_mono run ?_ (fun e s1 he => he)
  intro f s1 got
  match f, got with
  | .next, ⟨σ', H', J', q⟩ => exact wpAny_execs_nil ⟨σ', H', J'.ofTry ok, q⟩
  | .brk, ⟨σ', H', J', q⟩ => exact ⟨σ', H', J'.ofTry ok, q⟩
  | .cont, ⟨σ', H', J', q⟩ => exact ⟨σ', H', J'.ofTry ok, q⟩
  | .ret u, ⟨v, σ', H', J', r, q⟩ => exact ⟨v, σ', H', J'.ofTry ok, r, q⟩
end J

/-! Joinside, webs: what a web is, in plain Lean; what the defs of webs.py promise. -/
namespace J
open PySem PySem.Spec L2
theorem ne_none2 {H : Hp} {a b : Addr} {o : HO} (h' : H b = none) (h : H a = some o) : a ≠ b := ne_of_none h h'
/-! ### whole numbers within bounds -/
def among (x : V) (lo hi : Int) : Bool := match x with
  | .int i => decide (lo ≤ i) && decide (i ≤ hi)
  | _ => false
theorem among_int {i lo hi : Int} : among (.int i) lo hi = (decide (lo ≤ i) && decide (i ≤ hi)) := rfl
theorem among_nat {x : V} {n : Nat} (h : among x 0 (n - 1) = true) : ∃ i : Nat, x = .int i ∧ i < n := by
  cases x with
  | int i =>
    rw [among_int, Bool.and_eq_true, decide_eq_true_eq, decide_eq_true_eq] at h
    exact ⟨i.toNat, by congr 1; omega, by omega⟩
  | _ => cases h
theorem among_of {n i : Nat} (h : i < n) : among (.int i) 0 ((n : Int) - 1) = true := by
  rw [among_int, Bool.and_eq_true, decide_eq_true_eq, decide_eq_true_eq]
  omega
/-! ### bits -/
theorem bit_dec (m i : Nat) : decide (Builtin.bitAnd ((m : Int) / 2 ^ (Int.toNat (i : Int))) 1 = 1) = m.testBit i := by
  have e0 : Int.toNat (i : Int) = i := Int.toNat_natCast i
  have e1 : Builtin.bitAnd (Int.fdiv (m : Int) (2 ^ i)) 1 = (m : Int) / 2 ^ i % 2 := Bits.bit_at (x := (m : Int)) i
  have hp : (0 : Int) ≤ 2 ^ i := two_pow_nn i
  rw [Int.fdiv_eq_ediv_of_nonneg _ hp] at e1
  rw [e0, e1]
  have e2 : (m : Int) / 2 ^ i % 2 = ((m / 2 ^ i % 2 : Nat) : Int) := by push_cast; rfl
  rw [e2, Nat.testBit_eq_decide_div_mod_eq]
  by_cases h : m / 2 ^ i % 2 = 1
  · rw [h]; rfl
  · rw [decide_eq_false h, decide_eq_false]
    omega
theorem bit_flip (m j : Nat) : Builtin.bitXor (m : Int) (1 * 2 ^ (Int.toNat (j : Int))) = ((m ^^^ 2 ^ j : Nat) : Int) := by
  have e0 : Int.toNat (j : Int) = j := Int.toNat_natCast j
  have e1 : (1 : Int) * 2 ^ j = ((2 ^ j : Nat) : Int) := by push_cast; rw [Int.one_mul]
  rw [e0, e1, Bits.bitXor_pp (Int.natCast_nonneg m) (Int.natCast_nonneg _)]
  rfl
/-- the points that stand in a mask -/
def pts (m : Nat) : List Nat := (List.range 30).filter fun j => m.testBit j
def msk (ms : List Nat) : List V := ms.map fun (m : Nat) => V.int (m : Int)
theorem msk_length (ms : List Nat) : (msk ms).length = ms.length := List.length_map ..
theorem msk_get {ms : List Nat} {i : Nat} (h : i < ms.length) : (msk ms)[i]? = some (V.int ((ms.getD i 0 : Nat) : Int)) := by
  unfold msk
  rw [List.getElem?_map, List.getElem?_eq_getElem h]
  simp [h]
theorem getD_at {l : List Nat} {j : Nat} (h : j < l.length) : l[j]? = some (l.getD j 0) := by
  rw [List.getD_eq_getElem?_getD, List.getElem?_eq_getElem h]
  rfl
theorem msk_set {ms : List Nat} {i v : Nat} : (msk ms).set i (V.int (v : Int)) = msk (ms.set i v) := by
  unfold msk
  rw [List.map_set]
theorem msk_app {ms : List Nat} {v : Nat} : msk ms ++ [V.int (v : Int)] = msk (ms ++ [v]) := by simp [msk]
theorem msk_erase {ms : List Nat} {i : Nat} : (msk ms).eraseIdx i = msk (ms.eraseIdx i) := by
  unfold msk
  induction ms generalizing i with
  | nil => rfl
  | cons x r ih => cases i with
    | zero => rfl
    | succ i => simp only [List.map_cons, List.eraseIdx_cons_succ, ih]
theorem msk_rep (k : Nat) : (List.replicate k [V.int 0]).flatten = msk (List.replicate k 0) := by
  induction k with
  | zero => rfl
  | succ k ih =>
    rw [List.replicate_succ, List.replicate_succ, List.flatten_cons, ih]
    rfl
/-- a tie is put in or taken away -/
def flip (ms : List Nat) (i j : Nat) : List Nat := (ms.set i (ms.getD i 0 ^^^ 2 ^ j)).set j ((ms.set i (ms.getD i 0 ^^^ 2 ^ j)).getD j 0 ^^^ 2 ^ i)
theorem flip_length (ms : List Nat) (i j : Nat) : (flip ms i j).length = ms.length := by simp [flip]
/-- the ties that stand in the masks -/
def tiesM (ms : List Nat) : List (Nat × Nat) := (ms.zipIdx.map fun p => (pts p.1).filterMap fun o => if p.2 < o then some (p.2, o) else none).flatten
/-! ### a web in the heap -/
def webF (l : Addr) : List (Str × V) := [("near", V.ref l)]
structure WebAt (C : Addr) (H : Hp) (p l : Addr) (ms : List Nat) : Prop where
  ob : ∃ dx, H p = some (.ins C dx (webF l))
  li : H l = some (.lst (msk ms))
  sz : ms.length ≤ 30
theorem WebAt.same {C p l : Addr} {H H' : Hp} {ms : List Nat} (h : WebAt C H p l ms) (s : Same H H') : WebAt C H' p l ms := by
  obtain ⟨dx, e⟩ := h.ob
  exact ⟨⟨dx, s _ _ e⟩, s _ _ h.li, h.sz⟩
theorem WebAt.ne {C p l : Addr} {H : Hp} {ms : List Nat} (h : WebAt C H p l ms) : p ≠ l := by
  obtain ⟨dx, e⟩ := h.ob
  exact ne_of e h.li (by intro z; cases z)
theorem WebAt.put {C p l : Addr} {H : Hp} {ms ms' : List Nat} (h : WebAt C H p l ms) (z : ms'.length ≤ 30) : WebAt C (upd H l (.lst (msk ms'))) p l ms' := by
  obtain ⟨dx, e⟩ := h.ob
  exact ⟨⟨dx, up_ne h.ne e⟩, upd_same, z⟩
theorem WebAt.flip {C p l : Addr} {H : Hp} {ms : List Nat} {i j : Nat} (h : WebAt C H p l ms) : WebAt C (upd H l (.lst (msk (flip ms i j)))) p l (flip ms i j) := h.put (by rw [flip_length]; exact h.sz)
/-! ### promises -/
def sp_is_among (K : PySem.W.Frag) : Sp := fun vs H Q _ => ∃ (x : V) (lo hi : Int) (n : String), vs = [x, .int lo, .int hi] ∧ Th K H x n ∧ Q (.bl (among x lo hi)) H
def sp_points_in : Sp := fun vs H Q _ => ∃ (m : Nat), vs = [.int m] ∧ ∀ p, H p = none → Q (.ref p) (upd H p (.lst (msk (pts m))))
def sp_Web_init (K : PySem.W.Frag) (C eS : Addr) : Sp := fun vs H Q E => ∃ (p dx : Addr) (x : V) (n : String), vs = [.ref p, x] ∧ H p = some (.ins C dx []) ∧ Th K H x n ∧
  (∀ k : Nat, x = .int k → 1 ≤ k → k ≤ 30 → ∀ (l : Addr) (H' : Hp), H l = none → (∀ b o, b ≠ p → H b = some o → H' b = some o) → WebAt C H' p l (List.replicate k 0) → Q .non H') ∧ (among x 1 30 = false → E (.ref eS) none H)
def sp_Web_many (C : Addr) : Sp := fun vs H Q _ => ∃ (p l : Addr) (ms : List Nat), vs = [.ref p] ∧ WebAt C H p l ms ∧ Q (.int ms.length) H
def sp_Web_need_point (K : PySem.W.Frag) (C eP : Addr) : Sp := fun vs H Q E => ∃ (p l : Addr) (ms : List Nat) (x : V) (n : String), vs = [.ref p, x] ∧ WebAt C H p l ms ∧ Th K H x n ∧
  (∀ i : Nat, x = .int i → i < ms.length → Q .non H) ∧ (among x 0 ((ms.length : Int) - 1) = false → E (.ref eP) none H)
/-- two unlike points of a web of n -/
def good (n : Nat) (x y : V) : Bool := among x 0 ((n : Int) - 1) && among y 0 ((n : Int) - 1) && !decide (x = y)
def sp_Web_has (K : PySem.W.Frag) (C eP : Addr) : Sp := fun vs H Q E => ∃ (p l : Addr) (ms : List Nat) (x y : V) (n m : String), vs = [.ref p, x, y] ∧ WebAt C H p l ms ∧ Th K H x n ∧ Th K H y m ∧
  (∀ i j : Nat, x = .int i → y = .int j → i < ms.length → j < ms.length → i ≠ j → Q (.bl ((ms.getD i 0).testBit j)) H) ∧ (good ms.length x y = false → E (.ref eP) none H)
def sp_Web_change (C : Addr) : Sp := fun vs H Q _ => ∃ (p l : Addr) (ms : List Nat) (i j : Nat), vs = [.ref p, .int i, .int j] ∧ WebAt C H p l ms ∧ i < ms.length ∧ j < ms.length ∧ Q .non (upd H l (.lst (msk (flip ms i j))))
/-- put (was = false), take (was = true); eT: the refusal of what is not due -/
def sp_Web_turn (was : Bool) (K : PySem.W.Frag) (C eP eT : Addr) : Sp := fun vs H Q E => ∃ (p l : Addr) (ms : List Nat) (x y : V) (n m : String), vs = [.ref p, x, y] ∧ WebAt C H p l ms ∧ Th K H x n ∧ Th K H y m ∧
  (∀ i j : Nat, x = .int i → y = .int j → i < ms.length → j < ms.length → i ≠ j → ((ms.getD i 0).testBit j = was → Q .non (upd H l (.lst (msk (flip ms i j))))) ∧ ((ms.getD i 0).testBit j = !was → E (.ref eT) none H)) ∧
  (good ms.length x y = false → E (.ref eP) none H)
def sp_Web_grow (C eM : Addr) : Sp := fun vs H Q E => ∃ (p l : Addr) (ms : List Nat), vs = [.ref p] ∧ WebAt C H p l ms ∧
  (ms.length ≠ 30 → Q (.int ms.length) (upd H l (.lst (msk (ms ++ [0]))))) ∧ (ms.length = 30 → E (.ref eM) none H)
def sp_Web_beside (K : PySem.W.Frag) (C eP : Addr) : Sp := fun vs H Q E => ∃ (p l : Addr) (ms : List Nat) (x : V) (n : String), vs = [.ref p, x] ∧ WebAt C H p l ms ∧ Th K H x n ∧
  (∀ i : Nat, x = .int i → i < ms.length → ∀ q, H q = none → Q (.ref q) (upd H q (.lst (msk (pts (ms.getD i 0)))))) ∧ (among x 0 ((ms.length : Int) - 1) = false → E (.ref eP) none H)
/-- a value that is a tuple of two numbers -/
def PairAt (H : Hp) (x : V) (q : Nat × Nat) : Prop := ∃ t, x = .ref t ∧ H t = some (.tup [.int q.1, .int q.2])
def PairsAt (H : Hp) (xs : List V) (qs : List (Nat × Nat)) : Prop := Paired (PairAt H) xs qs
theorem PairAt.same {H H' : Hp} {x : V} {q : Nat × Nat} (s : Same H H') (h : PairAt H x q) : PairAt H' x q := by
  obtain ⟨t, e, h⟩ := h
  exact ⟨t, e, s _ _ h⟩
theorem PairsAt.same {H H' : Hp} {xs : List V} {qs : List (Nat × Nat)} (s : Same H H') (h : PairsAt H xs qs) : PairsAt H' xs qs := L2.Paired.mapP h fun _ _ z => z.same s
/-- a list is changed: the tuples stay -/
theorem PairsAt.upd {H : Hp} {xs ys zs : List V} {a : Addr} {qs : List (Nat × Nat)} (e : H a = some (.lst ys)) (h : PairsAt H xs qs) : PairsAt (L2.upd H a (.lst zs)) xs qs := L2.Paired.mapP h fun _ _ ⟨t, e1, e2⟩ => ⟨t, e1, up_ne (ne_of e2 e (by intro z; cases z)) e2⟩
theorem PairsAt.app {H : Hp} : ∀ {xs ys : List V} {qs rs : List (Nat × Nat)}, PairsAt H xs qs → PairsAt H ys rs → PairsAt H (xs ++ ys) (qs ++ rs)
  | _, _, _, _, .nil, h => h
  | _, _, _, _, .cons a b, h => .cons a (PairsAt.app b h)
theorem PairsAt.len {H : Hp} {xs : List V} {qs : List (Nat × Nat)} (h : PairsAt H xs qs) : xs.length = qs.length := Paired.length h
def sp_Web_ties (C : Addr) : Sp := fun vs H Q _ => ∃ (p l : Addr) (ms : List Nat), vs = [.ref p] ∧ WebAt C H p l ms ∧
  ∀ q xs H', Same H H' → H q = none → H' q = some (.lst xs) → PairsAt H' xs (tiesM ms) → Q (.ref q) H'
/-! ### calls by the promises -/
section
variable {K : PySem.W.Frag} {H : Hp} {Q : VK} {E : XK} {C eP eT eM eS p l : Addr} {ms : List Nat} {x y : V} {n m : String} {lo hi : Int}
theorem u_is_among (h : Th K H x n) (q : Q (.bl (among x lo hi)) H) : sp_is_among K [x, .int lo, .int hi] H Q E := ⟨x, lo, hi, n, rfl, h, q⟩
theorem u_points_in {m : Nat} (q : ∀ p, H p = none → Q (.ref p) (upd H p (.lst (msk (pts m))))) : sp_points_in [.int m] H Q E := ⟨m, rfl, q⟩
theorem u_many (h : WebAt C H p l ms) (q : Q (.int ms.length) H) : sp_Web_many C [.ref p] H Q E := ⟨p, l, ms, rfl, h, q⟩
theorem u_need_point (h : WebAt C H p l ms) (t : Th K H x n) (q : ∀ i : Nat, x = .int i → i < ms.length → Q .non H) (e : among x 0 ((ms.length : Int) - 1) = false → E (.ref eP) none H) : sp_Web_need_point K C eP [.ref p, x] H Q E := ⟨p, l, ms, x, n, rfl, h, t, q, e⟩
theorem u_need_ok {i : Nat} (h : WebAt C H p l ms) (hi : i < ms.length) (q : Q .non H) : sp_Web_need_point K C eP [.ref p, .int i] H Q E :=
  ⟨p, l, ms, _, _, rfl, h, .int _, fun _ _ _ => q, fun e => by rw [among_of hi] at e; cases e⟩
theorem u_has (h : WebAt C H p l ms) (t : Th K H x n) (u : Th K H y m) (q : ∀ i j : Nat, x = .int i → y = .int j → i < ms.length → j < ms.length → i ≠ j → Q (.bl ((ms.getD i 0).testBit j)) H) (e : good ms.length x y = false → E (.ref eP) none H) :
    sp_Web_has K C eP [.ref p, x, y] H Q E := ⟨p, l, ms, x, y, n, m, rfl, h, t, u, q, e⟩
theorem good_of {n i j : Nat} (hi : i < n) (hj : j < n) (ne : i ≠ j) : good n (.int i) (.int j) = true := by
  unfold good
  rw [among_of hi, among_of hj]
  simp
  omega
theorem u_has_ok {i j : Nat} (h : WebAt C H p l ms) (hi : i < ms.length) (hj : j < ms.length) (ne : i ≠ j) (q : Q (.bl ((ms.getD i 0).testBit j)) H) : sp_Web_has K C eP [.ref p, .int i, .int j] H Q E :=
  ⟨p, l, ms, _, _, _, _, rfl, h, .int _, .int _, fun a b ea eb _ _ _ => by
    injection ea with ea
    injection eb with eb
    have e1 : a = i := by omega
    have e2 : b = j := by omega
    subst e1 e2
    exact q, fun e => by rw [good_of hi hj ne] at e; cases e⟩
theorem u_change {i j : Nat} (h : WebAt C H p l ms) (hi : i < ms.length) (hj : j < ms.length) (q : Q .non (upd H l (.lst (msk (flip ms i j))))) : sp_Web_change C [.ref p, .int i, .int j] H Q E := ⟨p, l, ms, i, j, rfl, h, hi, hj, q⟩
theorem u_turn {was : Bool} {i j : Nat} (h : WebAt C H p l ms) (hi : i < ms.length) (hj : j < ms.length) (ne : i ≠ j) (b : (ms.getD i 0).testBit j = was) (q : Q .non (upd H l (.lst (msk (flip ms i j))))) : sp_Web_turn was K C eP eT [.ref p, .int i, .int j] H Q E :=
  ⟨p, l, ms, _, _, _, _, rfl, h, .int _, .int _, fun a c ea ec _ _ _ => by
    injection ea with ea
    injection ec with ec
    have e1 : a = i := by omega
    have e2 : c = j := by omega
    subst e1 e2
    exact ⟨fun _ => q, fun z => by rw [b] at z; cases was <;> cases z⟩, fun e => by rw [good_of hi hj ne] at e; cases e⟩
end
end J
namespace J
open PySem PySem.Spec L2
/-! ### the ties, one point after another -/
theorem pts_length (m : Nat) : (pts m).length ≤ 30 := Nat.le_trans (List.length_filter_le _ _) (by simp)
def tiesAt (ms : List Nat) (i : Nat) : List (Nat × Nat) := (pts (ms.getD i 0)).filterMap fun o => if i < o then some (i, o) else none
def tiesTo (ms : List Nat) (i : Nat) : List (Nat × Nat) := ((List.range i).map fun j => tiesAt ms j).flatten
theorem tiesTo_succ {ms : List Nat} {i : Nat} (_ : i < ms.length) : tiesTo ms (i + 1) = tiesTo ms i ++ (pts (ms.getD i 0)).filterMap fun o => if i < o then some (i, o) else none := by
  unfold tiesTo
  rw [List.range_succ, List.map_append, List.flatten_append]
  simp [tiesAt]
theorem tiesTo_length (ms : List Nat) : ∀ i, i ≤ 30 → (tiesTo ms i).length ≤ 30 * i
  | 0, _ => by simp [tiesTo]
  | i + 1, h => by
    have ih := tiesTo_length ms i (by omega)
    have a : (tiesAt ms i).length ≤ 30 := Nat.le_trans (List.length_filterMap_le _ _) (pts_length _)
    unfold tiesTo at ih ⊢
    rw [List.range_succ, List.map_append, List.flatten_append, List.length_append]
    simp only [List.map_cons, List.map_nil, List.flatten_cons, List.flatten_nil, List.append_nil]
    omega
theorem tiesTo_all (ms : List Nat) : tiesTo ms ms.length = tiesM ms := by
  unfold tiesTo tiesM
  congr 1
  apply List.ext_getElem
  · simp
  · intro i h1 h2
    simp only [List.length_map, List.length_range] at h1
    simp [tiesAt, h1]
/-! ### lists of points -/
/-- a list of at least so many unlike points of a web of n -/
def PtsOk (n : Nat) (least : Int) (xs : List V) : Prop := ∃ is : List Nat, xs = msk is ∧ (∀ i ∈ is, i < n) ∧ is.Nodup ∧ least ≤ is.length
def sp_Web_need_points (K : PySem.W.Frag) (C eP : Addr) : Sp := fun vs H Q E => ∃ (p l : Addr) (ms : List Nat) (x : V) (least : Int), vs = [.ref p, x, .int least] ∧ WebAt C H p l ms ∧
  ((∃ n, Th K H x n ∧ n ≠ "list" ∧ E (.ref eP) none H) ∨ (∃ a xs, x = .ref a ∧ H a = some (.lst xs) ∧ xs.length ≤ 1000 ∧ (∀ v ∈ xs, ∃ n, Th K H v n) ∧ (PtsOk ms.length least xs → Q .non H) ∧ (¬ PtsOk ms.length least xs → E (.ref eP) none H)))
theorem msk_ints (is : List Nat) : msk is = (is.map fun (m : Nat) => (m : Int)).map V.int := by
  unfold msk
  rw [List.map_map]
  rfl
theorem isB_list {n : String} (h : n ∈ kinds) : isB n "list" = decide (n = "list") := by
  simp only [kinds, List.mem_cons, List.not_mem_nil, or_false] at h
  rcases h with h | h | h | h | h | h | h <;> subst h <;> decide
theorem msk_inj {is js : List Nat} (h : msk is = msk js) : is = js := by
  unfold msk at h
  exact (List.map_inj_right fun a b e => by injection e with e; omega).mp h
theorem nodup_ints {is : List Nat} : (is.map fun (m : Nat) => (m : Int)).Nodup ↔ is.Nodup := by
  constructor
  · intro h
    unfold List.Nodup at h ⊢
    rw [List.pairwise_map] at h
    exact h.imp fun n e => n (by rw [e])
  · intro h
    exact List.Pairwise.map _ (fun a b (n : a ≠ b) e => n (by omega)) h
end J

/-! Joinside, loops and comprehensions: openers and closers. -/
namespace J
open PySem PySem.Spec L2
section
variable {K : PySem.W.Frag} {σ : Sl} {H H1 : Hp} {Q : VK} {wi : TI} {g : TG} {tt : TT} {te : TE} {tl : TE} {ta : TA} {vs : List Nat} {a D : Addr} {xs : List V} {R : It → Hp → Prop} {tb : TS} {En : Ends} {j k : Int}
theorem s_lc (q : wi σ H fun J H1 => ∀ D, H1 D = none → ∃ W : Nat → Nat → Hp → Prop, (∃ m, W 0 m (upd H1 D (.lst []))) ∧ ∀ i m H, W i m H →
  (J.stop i H ∧ Q (.ref D) H) ∨ (J.go i H ∧ ∃ Nx : Hp → Prop, (∀ H', Nx H' → ∃ m', m' < m ∧ W (i + 1) m' H') ∧ ∀ x H', J.yld i H x H' → g x (wipe σ vs) H' fun σ2 H2 => wipe σ2 vs = wipe σ vs ∧ tt σ2 H2 fun b H3 =>
    if b = true then te σ2 H3 fun y H4 => ∃ acc, H4 D = some (.lst acc) ∧ acc.length < sizeLine ∧ Nx (upd H4 D (.lst (acc ++ [y]))) else Nx H3)) : tLc wi g tt te vs σ H Q := q
theorem s_for (q : wi σ H fun J H1 => ∃ W : Nat → Nat → L2.St → Hp → Prop, (∃ m, W 0 m σ H1) ∧ ∀ i m σ H, W i m σ H →
  (J.stop i H ∧ En.nx σ H) ∨ (J.go i H ∧ ∃ N : L2.St → Hp → Prop, (∀ σ' H', N σ' H' → ∃ m', m' < m ∧ W (i + 1) m' σ' H') ∧ ∀ x H', J.yld i H x H' → g x σ H' fun σ2 H2 => tb { En with nx := N, ct := N, bk := En.nx } σ2 H2)) : tFor wi g tb En σ H := q
theorem s_rng1 (q : ta σ H fun vs H1 => ∃ j : Int, vs = [.int j] ∧ -(2 ^ 62) ≤ j ∧ j < 2 ^ 62 ∧ R (Itr 0 j.toNat) H1) : iRng1 ta σ H R := q
theorem s_rng1E {R : Int → Prop} (h1 : -(2 ^ 62) ≤ k) (h2 : k < 2 ^ 62) (q : R k) : ∃ j : Int, [V.int k] = [.int j] ∧ -(2 ^ 62) ≤ j ∧ j < 2 ^ 62 ∧ R j := ⟨k, rfl, h1, h2, q⟩
theorem s_rng2 (q : ta σ H fun vs H1 => ∃ i j : Int, vs = [.int i, .int j] ∧ (-(2 ^ 62) ≤ i ∧ i < 2 ^ 62 ∧ -(2 ^ 62) ≤ j ∧ j < 2 ^ 62) ∧ R (Itr i (j - i).toNat) H1) : iRng2 ta σ H R := q
theorem s_ienum (q : ta σ H fun vs H1 => ∃ a xs, vs = [.ref a] ∧ SqL K H1 a xs ∧ R (Ite K a) H1) : iEnum K ta σ H R := q
theorem s_ienumE {R : Addr → Prop} (h : SqL K H a xs) (q : R a) : ∃ b ys, [V.ref a] = [.ref b] ∧ SqL K H b ys ∧ R b := ⟨a, xs, rfl, h, q⟩
theorem s_ilist (q : tl σ H fun x H1 => ∃ a, x = .ref a ∧ (∃ xs, SqL K H1 a xs) ∧ R (Itl K a) H1) : iList K tl σ H R := q
theorem s_ilistE {R : Addr → Prop} (h : SqL K H a xs) (q : R a) : ∃ b, V.ref a = .ref b ∧ (∃ xs, SqL K H b xs) ∧ R b := ⟨a, rfl, ⟨xs, h⟩, q⟩
theorem s_itup (q : tl σ H fun x H1 => ∃ a, x = .ref a ∧ (∃ xs, SqT K H1 a xs) ∧ R (Itt K a) H1) : iTup K tl σ H R := q
theorem s_itupE {R : Addr → Prop} (h : SqT K H a xs) (q : R a) : ∃ b, V.ref a = .ref b ∧ (∃ xs, SqT K H b xs) ∧ R b := ⟨a, rfl, ⟨xs, h⟩, q⟩
/-- the list of a comprehension that touches nothing else grows, or not -/
theorem lc_yes {F : Nat → Option V} {i : Nat} {y : V} (hi : i < 100000) (e : F i = some y) : ∃ acc, upd H D (.lst ((List.range i).filterMap F)) D = some (.lst acc) ∧ acc.length < sizeLine ∧
    upd (upd H D (.lst ((List.range i).filterMap F))) D (.lst (acc ++ [y])) = upd H D (.lst ((List.range (i + 1)).filterMap F)) := by
  refine ⟨_, upd_same, ?_, ?_⟩
  · have h1 : ((List.range i).filterMap F).length ≤ i := Nat.le_trans (List.length_filterMap_le _ _) (by simp)
    exact Nat.lt_of_le_of_lt h1 (Nat.lt_of_lt_of_le hi (by decide))
  · rw [upd_upd, List.range_succ, List.filterMap_append]
    simp [e]
theorem lc_no {F : Nat → Option V} {i : Nat} (e : F i = none) : upd H D (.lst ((List.range i).filterMap F)) = upd H D (.lst ((List.range (i + 1)).filterMap F)) := by
  rw [List.range_succ, List.filterMap_append]
  simp [e]
theorem take_succ_of {α : Type} {l : List α} {i : Nat} {x : α} (h : l[i]? = some x) : l.take (i + 1) = l.take i ++ [x] := by
  rw [List.take_add_one, h]
  rfl
theorem lc_yesL {F : V → Option V} {i : Nat} {x y : V} (hx : xs[i]? = some x) (hi : i < 100000) (e : F x = some y) : ∃ acc, upd H D (.lst ((xs.take i).filterMap F)) D = some (.lst acc) ∧ acc.length < sizeLine ∧
    upd (upd H D (.lst ((xs.take i).filterMap F))) D (.lst (acc ++ [y])) = upd H D (.lst ((xs.take (i + 1)).filterMap F)) := by
  refine ⟨_, upd_same, ?_, ?_⟩
  · have h1 : ((xs.take i).filterMap F).length ≤ i := Nat.le_trans (List.length_filterMap_le _ _) (by simp; omega)
    exact Nat.lt_of_le_of_lt h1 (Nat.lt_of_lt_of_le hi (by decide))
  · rw [upd_upd, take_succ_of hx, List.filterMap_append]
    simp [e]
theorem lc_noL {F : V → Option V} {i : Nat} {x : V} (hx : xs[i]? = some x) (e : F x = none) : upd H D (.lst ((xs.take i).filterMap F)) = upd H D (.lst ((xs.take (i + 1)).filterMap F)) := by
  rw [take_succ_of hx, List.filterMap_append]
  simp [e]
end
theorem pts_fm (m : Nat) : msk (pts m) = (List.range 30).filterMap fun i => if m.testBit i = true then some (V.int (i : Int)) else none := by
  unfold msk pts
  induction (List.range 30) with
  | nil => rfl
  | cons x r ih =>
    rw [List.filter_cons, List.filterMap_cons]
    by_cases h : m.testBit x = true
    · rw [if_pos h, if_pos h, List.map_cons, ih]
    · rw [if_neg h, if_neg h, ih]
end J

/-! Joinside: rules with the written part named (so that they serve within a comprehension's block too). -/
namespace J
open PySem PySem.Spec PyProof.Rows L2
section
variable {X : Cx} {K : PySem.W.Frag}
theorem kEq (hu : X.A.units + 64 < cLine) (hK : X.K = K := by rfl) : OpR X (compareOp .Eq) (rEqA K) := by subst hK; exact op_eqA hu
theorem kNe (hu : X.A.units + 64 < cLine) (hK : X.K = K := by rfl) : OpR X (compareOp .NotEq) (rNeA K) := by subst hK; exact op_neA hu
theorem kAdd (hK : X.K = K := by rfl) : OpR X (binaryOp .Add) (rAddA K) := by subst hK; exact op_addA
theorem kMul (hK : X.K = K := by rfl) : OpR X (binaryOp .Mult) (rMulA K) := by subst hK; exact op_mulA
theorem kIs (hK : X.K = K := by rfl) : CallR X (.builtin "isinstance") (rIs K) := by subst hK; exact call_is
theorem kLen (hK : X.K = K := by rfl) : CallR X (.builtin "len") (rLenA K) := by subst hK; exact call_lenA
theorem kRepr (hG : X.A.guards = some []) (hu : X.A.units + 200 < cLine) (hK : X.K = K := by rfl) : CallR X (.builtin "repr") (rRepr K) := by subst hK; exact call_repr hG hu
theorem kIx (hK : X.K = K := by rfl) : IxR X (rIx K) := by subst hK; exact ix_seq
theorem kGet (hK : X.K = K := by rfl) : PGet X (rIxN K) := by subst hK; exact get_list
theorem kFld {e : Expr} {ta : TE} {f : Str} {pos : Pos} (he : PE X e ta) (hb : attributeBase e f X.env (eval e X.env) = eval e X.env := by rfl) (hK : X.K = K := by rfl) : PE X (.Attribute e f pos) (tFld K ta f) := by subst hK; exact pe_fld he hb
theorem kList {tg l : Expr} {tl : TE} (h : PE X l tl) (hK : X.K = K := by rfl) : PI X tg l (iList K tl) := by subst hK; exact pi_list h
theorem kTup {tg l : Expr} {tl : TE} (h : PE X l tl) (hK : X.K = K := by rfl) : PI X tg l (iTup K tl) := by subst hK; exact pi_tup h
theorem kEnum {e : Expr} {ta : TA} {p pos tpos : Pos} {elts : List Expr} {kk : Nat} (hg : Gl X "enumerate") (hm : X.mg "enumerate" = none) (ha : PA X [e] ta) (hs : starEach [e] X.env = [(false, eval e X.env)] := by rfl) (hK : X.K = K := by rfl) :
    PI X (.Tuple elts kk tpos) (.Call (.Name "enumerate" p) [e] [] pos) (iEnum K ta) := by subst hK; exact pi_enum hg hm ha hs
theorem kZip {e e2 : Expr} {ta : TA} {p pos tpos : Pos} {elts : List Expr} {kk : Nat} (hg : Gl X "zip") (hm : X.mg "zip" = none) (ha : PA X [e, e2] ta) (hs : starEach [e, e2] X.env = (false, eval e X.env) :: starEach [e2] X.env := by rfl)
    (hpl : (backTo pos (starEach [e2] X.env)).any (·.1) = false := by rfl) (hK : X.K = K := by rfl) : PI X (.Tuple elts kk tpos) (.Call (.Name "zip" p) [e, e2] [] pos) (iZip K ta) := by subst hK; exact pi_zip hg hm ha hs hpl
theorem kGtup {es : List Expr} {k : Nat} {t : TGs} {n : Nat} {pos : Pos} (hc : X.calm = true) (h : PGs X es t) (hn : (assignEach es X.env).length = n := by rfl) (hst : (assignEach es X.env).findIdx? (·.1) = none := by rfl) (hK : X.K = K := by rfl) :
    PG X (.Tuple es k pos) (gTup K n t) := by subst hK; exact pg_tup hc h hn hst
theorem s_cm1 {H : Hp} {a C dx : Addr} {fs : List (Str × V)} {m : Str} {sp : Sp} {R : Sp → Prop} (h : H a = some (.ins C dx fs)) (l : fs.lookup m = none) (q : R sp) : ∃ a' C' dx fs, V.ref a = .ref a' ∧ H a' = some (.ins C' dx fs) ∧ fs.lookup m = none ∧ ∃ sp', One C sp C' sp' ∧ R sp' := ⟨a, C, dx, fs, rfl, h, l, sp, ⟨rfl, rfl⟩, q⟩
theorem s_ixL {H : Hp} {Q : VK} {a : Addr} {xs : List V} {i : Int} {v : V} (h : SqL K H a xs) (e : atI xs i = some v) (q : Q v H) : rIx K (.ref a) (.int i) H Q := .inl ⟨a, xs, i, v, rfl, rfl, h, e, q⟩
theorem s_ixT {H : Hp} {Q : VK} {a : Addr} {xs : List V} {i : Int} {v : V} (h : SqT K H a xs) (e : atI xs i = some v) (q : Q v H) : rIx K (.ref a) (.int i) H Q := .inr (.inl ⟨a, xs, i, v, rfl, rfl, h, e, q⟩)
theorem s_ixS {H : Hp} {Q : VK} {z : Str} {i : Int} {c : Nat} (h : z.length ≤ sizeLine) (e : atI z.cps.toList i = some c) (q : Q (.str ⟨#[c]⟩) H) : rIx K (.str z) (.int i) H Q := .inr (.inr ⟨z, i, c, rfl, rfl, h, e, q⟩)
theorem s_ixN {H : Hp} {Q : VK} {a : Addr} {xs : List V} {i : Nat} {v : V} (h : SqL K H a xs) (e : xs[i]? = some v) (q : Q v H) : rIxN K (.ref a) (.int i) H Q := ⟨a, xs, i, v, rfl, rfl, h, e, q⟩
theorem s_setN {H : Hp} {R : Hp → Prop} {a : Addr} {xs : List V} {i : Nat} {v : V} (h : H a = some (.lst xs)) (hi : i < xs.length) (q : R (upd H a (.lst (xs.set i v)))) : rSetL (.ref a) (.int i) v H R :=
  ⟨a, xs, i, i, rfl, rfl, h, by unfold ixN; rw [if_pos (by omega), if_pos (by omega)]; rfl, q⟩
theorem s_append {H : Hp} {Q : VK} {a : Addr} {xs : List V} {v : V} (h : H a = some (.lst xs)) (hz : xs.length < sizeLine) (q : Q .non (upd H a (.lst (xs ++ [v])))) : rAppend (.ref a) [v] H Q := ⟨a, xs, v, rfl, rfl, h, hz, q⟩
theorem s_popN {H : Hp} {Q : VK} {a : Addr} {xs : List V} {i : Nat} {v : V} (h : H a = some (.lst xs)) (e : xs[i]? = some v) (q : Q v (upd H a (.lst (xs.eraseIdx i)))) (hz : i < 2 ^ 63 := by omega) : rPopAt (.ref a) [.int i] H Q := by
  have hi : i < xs.length := (List.getElem?_eq_some_iff.mp e).1
  refine ⟨a, xs, i, i, v, rfl, rfl, h, by omega, by omega, ?_, e, q⟩
  rw [seqIndex_of (by omega) (by omega), Int.toNat_natCast]
theorem s_listRg {σ : Sl} {H : Hp} {Q : VK} {te : TE} (q : te σ H fun x H1 => ∃ n, x = .int n ∧ RgOk 0 n ∧ ∀ q, H1 q = none → Q (.ref q) (upd H1 q (.lst (rgV 0 n)))) : tLstRg (tRg1 te) σ H Q := q
theorem rg_ok {k : Nat} (h : k ≤ 100000) : RgOk 0 (k : Int) := RgOk.of_le (by omega) (by omega) (by omega) (by omega)
theorem rgV_nat (k : Nat) : rgV 0 (k : Int) = msk (List.range k) := by
  unfold rgV msk
  rw [show ((k : Int) - 0).toNat = k by omega]
  simp only [Int.zero_add]
theorem s_extend {H : Hp} {Q : VK} {a b : Addr} {xs ys : List V} (h : H a = some (.lst xs)) (hb : H b = some (.lst ys)) (hz : xs.length + ys.length ≤ sizeLine) (q : Q .non (upd H a (.lst (xs ++ ys)))) : rExtend (.ref a) [.ref b] H Q := ⟨a, b, xs, ys, rfl, rfl, h, hb, hz, q⟩
theorem s_bm {T : String} {r : V → List V → Hp → VK → Prop} {to : TE} {t : TA} {σ : Sl} {H : Hp} {Q : VK} (q : to σ H fun x H1 => tyV K T x H1 ∧ t σ H1 fun xs H2 => r x xs H2 Q) : tBM K T r to t σ H Q := q
theorem s_bm0 {T : String} {r : V → List V → Hp → VK → Prop} {to : TE} {σ : Sl} {H : Hp} {Q : VK} (q : to σ H fun x H1 => tyV K T x H1 ∧ r x [] H1 Q) : tBM0 K T r to σ H Q := q
theorem s_tyL {H : Hp} {a : Addr} {xs : List V} {R : Prop} (h : SqL K H a xs) (q : R) : tyV K "list" (.ref a) H ∧ R := ⟨.inl ⟨rfl, xs, h⟩, q⟩
/-- a slice of a list, a text, a tuple -/
def rSl (K : PySem.W.Frag) : V → Option Int → Option Int → Hp → VK → Prop := fun x lo hi H Q => rSlL K x lo hi H Q ∨ rSlA K x lo hi H Q
theorem kSl (hK : X.K = K := by rfl) : SlR X (rSl K) := by subst hK; exact sl_list.or sl_tupA
theorem kListOf (hK : X.K = K := by rfl) : CallR X (.type "list") (fun xs H Q => ∃ p ys, xs = [.ref p] ∧ (SqL K H p ys ∨ SqT K H p ys) ∧ ∀ l, H l = none → Q (.ref l) (upd H l (.lst ys))) := by subst hK; exact call_list_of
theorem kTupleOf (hK : X.K = K := by rfl) : CallR X (.type "tuple") (fun xs H Q => ∃ p ys, xs = [.ref p] ∧ ((SqL K H p ys ∧ ∀ l, H l = none → Q (.ref l) (upd H l (.tup ys))) ∨ (SqT K H p ys ∧ Q (.ref p) H))) := by subst hK; exact call_tuple_of
def rListOf (K : PySem.W.Frag) : List V → Hp → VK → Prop := fun xs H Q => ∃ p ys, xs = [.ref p] ∧ (SqL K H p ys ∨ SqT K H p ys) ∧ ∀ l, H l = none → Q (.ref l) (upd H l (.lst ys))
def rTupleOf (K : PySem.W.Frag) : List V → Hp → VK → Prop := fun xs H Q => ∃ p ys, xs = [.ref p] ∧ ((SqL K H p ys ∧ ∀ l, H l = none → Q (.ref l) (upd H l (.tup ys))) ∨ (SqT K H p ys ∧ Q (.ref p) H))
theorem kListO (hK : X.K = K := by rfl) : CallR X (.type "list") (rListOf K) := kListOf hK
theorem kTupleO (hK : X.K = K := by rfl) : CallR X (.type "tuple") (rTupleOf K) := kTupleOf hK
theorem s_listO {H : Hp} {Q : VK} {p : Addr} {ys : List V} (h : SqL K H p ys ∨ SqT K H p ys) (q : ∀ l, H l = none → Q (.ref l) (upd H l (.lst ys))) : rListOf K [.ref p] H Q := ⟨p, ys, rfl, h, q⟩
theorem s_tupleO {H : Hp} {Q : VK} {p : Addr} {ys : List V} (h : SqL K H p ys) (q : ∀ l, H l = none → Q (.ref l) (upd H l (.tup ys))) : rTupleOf K [.ref p] H Q := ⟨p, ys, rfl, .inl ⟨h, q⟩⟩
def rInt1 : List V → Hp → VK → Prop := fun xs H Q => (∃ i, xs = [.int i] ∧ Q (.int i) H) ∨ ∃ k, xs = [.bl k] ∧ Q (.int (if k then 1 else 0)) H
theorem kInt1 : CallR X (.type "int") rInt1 := call_int1
theorem s_divN {H : Hp} {Q : VK} {i j : Nat} (h : 0 < j) (h2 : j < 1073741824) (q : Q (.int ((i / j : Nat) : Int)) H) : rI CDiv (fun i j => .int (i / j)) (.int i) (.int j) H Q := ⟨i, j, rfl, rfl, ⟨by omega, by omega⟩, q⟩
theorem s_modN {H : Hp} {Q : VK} {i j : Nat} (h : 0 < j) (q : Q (.int ((i % j : Nat) : Int)) H) : rI (fun _ j => 0 < j) (fun i j => .int (i % j)) (.int i) (.int j) H Q := ⟨i, j, rfl, rfl, by omega, q⟩
theorem s_slL {H : Hp} {Q : VK} {a : Addr} {xs : List V} {lo hi : Option Int} (h : SqL K H a xs) (q : ∀ p, H p = none → Q (.ref p) (upd H p (.lst (cutV xs lo hi)))) : rSl K (.ref a) lo hi H Q := .inl ⟨a, xs, rfl, h, q⟩
theorem cut_mid {xs : List V} {i j : Nat} (h : i ≤ j) (hj : j ≤ xs.length) : cutV xs (some i) (some j) = (xs.drop i).take (j - i) := by
  unfold cutV
  rw [HT.sIx_nat, HT.sIx_nat, Nat.min_eq_left hj, Nat.min_eq_left (Nat.le_trans h hj)]
theorem cut_to {xs : List V} {j : Nat} (hj : j ≤ xs.length) : cutV xs none (some j) = xs.take j := by
  unfold cutV
  rw [HT.sIx_nat, HT.sIx_none, Nat.min_eq_left hj]
  simp
theorem cut_from {xs : List V} {i : Nat} (hi : i ≤ xs.length) : cutV xs (some i) none = xs.drop i := by
  unfold cutV
  rw [HT.sIx_nat, HT.sIx_none, Nat.min_eq_left hi]
  rw [List.take_of_length_le (by rw [List.length_drop]; omega)]
theorem s_dnew {σ : Sl} {H : Hp} {Q : VK} (q : ∀ p, H p = none → Q (.ref p) (upd H p (.dK []))) : tDNewK σ H Q := q
def rIsN : R2 := fun x y H Q => y = .non ∧ Q (.bl (decide (x = .non))) H
def rNotN : R2 := fun x y H Q => y = .non ∧ Q (.bl (!decide (x = .non))) H
theorem op_isN1 : OpR X (compareOp .Is) rIsN := op_isN
theorem op_notN1 : OpR X (compareOp .IsNot) rNotN := op_notN
theorem s_isNN {H : Hp} {Q : VK} (q : Q (.bl true) H) : rIsN .non .non H Q := ⟨rfl, by rw [decide_eq_true rfl]; exact q⟩
theorem s_isNr {H : Hp} {Q : VK} {a : Addr} (q : Q (.bl false) H) : rIsN (.ref a) .non H Q := ⟨rfl, by rw [decide_eq_false (by intro z; cases z)]; exact q⟩
theorem s_isNi {H : Hp} {Q : VK} {a : Int} (q : Q (.bl false) H) : rIsN (.int a) .non H Q := ⟨rfl, by rw [decide_eq_false (by intro z; cases z)]; exact q⟩
theorem s_notNN {H : Hp} {Q : VK} (q : Q (.bl false) H) : rNotN .non .non H Q := ⟨rfl, by rw [decide_eq_true rfl]; exact q⟩
theorem s_notNr {H : Hp} {Q : VK} {a : Addr} (q : Q (.bl true) H) : rNotN (.ref a) .non H Q := ⟨rfl, by rw [decide_eq_false (by intro z; cases z)]; exact q⟩
theorem s_notNi {H : Hp} {Q : VK} {a : Int} (q : Q (.bl true) H) : rNotN (.int a) .non H Q := ⟨rfl, by rw [decide_eq_false (by intro z; cases z)]; exact q⟩
def rMin2 : List V → Hp → VK → Prop := fun xs H Q => ∃ i j, xs = [.int i, .int j] ∧ Q (.int (if j < i then j else i)) H
def rMax2 : List V → Hp → VK → Prop := fun xs H Q => ∃ i j, xs = [.int i, .int j] ∧ Q (.int (if j > i then j else i)) H
theorem kMin2 (hc : X.calm = true) : CallR X (.builtin "min") rMin2 := call_min2 hc
theorem kMax2 (hc : X.calm = true) : CallR X (.builtin "max") rMax2 := call_max2 hc
theorem s_min2 {H : Hp} {Q : VK} {i j : Nat} (q : Q (.int ((min i j : Nat) : Int)) H) : rMin2 [.int i, .int j] H Q := ⟨i, j, rfl, by rw [show (if (j : Int) < i then (j : Int) else i) = ((min i j : Nat) : Int) by split <;> omega]; exact q⟩
theorem s_max2 {H : Hp} {Q : VK} {i j : Nat} (q : Q (.int ((max i j : Nat) : Int)) H) : rMax2 [.int i, .int j] H Q := ⟨i, j, rfl, by rw [show (if (j : Int) > i then (j : Int) else i) = ((max i j : Nat) : Int) by split <;> omega]; exact q⟩
theorem s_intB {H : Hp} {Q : VK} {k : Bool} (q : Q (.int (if k then 1 else 0)) H) : rInt1 [.bl k] H Q := .inr ⟨k, rfl, q⟩
theorem s_intI {H : Hp} {Q : VK} {k : Int} (q : Q (.int k) H) : rInt1 [.int k] H Q := .inl ⟨k, rfl, q⟩
theorem s_m1 {r : V → List V → Hp → VK → Prop} {to te : TE} {σ : Sl} {H : Hp} {Q : VK} (q : to σ H fun x H1 => (∃ a, x = .str a) ∧ te σ H1 fun y H2 => r x [y] H2 Q) : tM1 r to te σ H Q := q
theorem s_m1E {x : Str} {R : Prop} (q : R) : (∃ a, V.str x = .str a) ∧ R := ⟨⟨x, rfl⟩, q⟩
theorem kSum (hc : X.calm = true) (hK : X.K = K := by rfl) : CallR X (.builtin "sum") (rSum K) := by subst hK; exact cr_sum hc
theorem kAll (hc : X.calm = true) (hK : X.K = K := by rfl) : CallR X (.builtin "all") (rAll K) := by subst hK; exact cr_all hc
theorem kIndex (hK : X.K = K := by rfl) : MtR X "list.index" (rIndex K) := by subst hK; exact mt_index
/-- sorted: of ints, of pairs of ints -/
def rSorted (K : PySem.W.Frag) : List V → Hp → VK → Prop := fun xs H Q => rSortedI K xs H Q ∨ rSortedPO K xs H Q
theorem kSorted (hK : X.K = K := by rfl) : CallR X (.builtin "sorted") (rSorted K) := by subst hK; exact cr_sortedI.or cr_sortedPO
/-- in: of flat things in a list or a tuple, of data in a list -/
def rInA (K : PySem.W.Frag) (neg : Bool) : R2 := fun x y H Q => rIn K neg x y H Q ∨ (if neg then rNotInD K x y H Q else rInD K x y H Q)
theorem kIn (hu : X.A.units + 65 < cLine) (hK : X.K = K := by rfl) : OpR X (compareOp .In) (rInA K false) := by subst hK; exact op_in_seq.or (op_inD hu)
theorem kNotIn (hu : X.A.units + 65 < cLine) (hK : X.K = K := by rfl) : OpR X (compareOp .NotIn) (rInA K true) := by subst hK; exact op_notIn_seq.or (op_notInD hu)
section
variable {H : Hp} {Q : VK} {x : V} {a : Addr} {xs : List V} {d : PyData} {ds : List PyData}
theorem s_inF (h : SqL K H a xs ∨ SqT K H a xs) (fx : flatV x = true) (fs : xs.all flatV = true) (q : Q (.bl (inV x xs)) H) : rInA K false x (.ref a) H Q := .inl ⟨a, xs, rfl, h, fx, fs, q⟩
theorem s_notInF (h : SqL K H a xs ∨ SqT K H a xs) (fx : flatV x = true) (fs : xs.all flatV = true) (q : Q (.bl (!inV x xs)) H) : rInA K true x (.ref a) H Q := .inl ⟨a, xs, rfl, h, fx, fs, q⟩
theorem s_inD (hx : Dp K H x d) (h : Dp K H (.ref a) (.list ds)) (s1 : SeqAt.shaped d = true) (s2 : SeqAt.shaped (.list ds) = true) (q : Q (.bl (ds.any fun z => PyData.eqv z d)) H) : rInA K false x (.ref a) H Q := .inr ⟨d, ds, hx, h, s1, s2, q⟩
theorem s_notInD (hx : Dp K H x d) (h : Dp K H (.ref a) (.list ds)) (s1 : SeqAt.shaped d = true) (s2 : SeqAt.shaped (.list ds) = true) (q : Q (.bl (!ds.any fun z => PyData.eqv z d)) H) : rInA K true x (.ref a) H Q := .inr ⟨d, ds, hx, h, s1, s2, q⟩
end
/-- sep.join(texts) -/
def rJoin (K : PySem.W.Frag) : V → List V → Hp → VK → Prop := fun x xs H Q => ∃ a p, ∃ ys : List Str, x = .str a ∧ xs = [.ref p] ∧ (SqL K H p (ys.map V.str) ∨ SqT K H p (ys.map V.str)) ∧ (ys.map (·.length)).sum + ys.length * a.length ≤ 16777216 ∧ Q (.str (Txt.join a ys)) H
theorem kJoin {o e : Expr} {to te : TE} {apos pos : Pos} (ho : PE X o to) (he : PE X e te) (hs : starEach [e] X.env = [(false, eval e X.env)] := by rfl) (hbase : attributeBase o "join" X.env (eval o X.env) = eval o X.env := by rfl) (hline : (apos.endLine == pos.line) = true := by rfl) (hK : X.K = K := by rfl) :
    PE X (.Call (.Attribute o "join" apos) [e] [] pos) (tM1 (rJoin K) to te) := by subst hK; exact pe_join ho he hs hbase hline
theorem s_join {H : Hp} {Q : VK} {x : Str} {p : Addr} {ys : List Str} (h : SqL K H p (ys.map V.str) ∨ SqT K H p (ys.map V.str)) (hz : (ys.map (·.length)).sum + ys.length * x.length ≤ 16777216) (q : Q (.str (Txt.join x ys)) H) : rJoin K (.str x) [.ref p] H Q := ⟨x, p, ys, rfl, rfl, h, hz, q⟩
theorem kSet {o value : Expr} {ta tv : TE} {f : Str} {pos pos' : Pos} (ha : PE X o ta) (hv : PE X value tv) (hs : swapsWith value (some (.Attribute o f pos')) pos.line X.env = pure false) (hK : X.K = K := by rfl) : PS X (.Assign [.Attribute o f pos'] value pos) (sFld K ta tv f) := by subst hK; exact ps_fld ha hv hs
theorem kTry {c : Value} {i j : Nat} {x n m : Str} {body : List Stmt} {np pos pos' pm pn2 pa : Pos} {tb : WX → TS} {Wout : WX} (hs : X.stack = X.env :: X.outer) (hf : X.env.frame = some X.env.locals) (hex : X.ex = []) (hN : X.N.Nodup)
    (hi : X.N[i]? = some n) (hln : X.env.kindOf n = some .local) (hj : X.N[j]? = some m) (hlm : X.env.kindOf m = some .local) (hij : i ≠ j) (hc : Names X x c) (tk : Takes X Wout)
    (hsw : swapsWith (.Name n pn2) (some (.Name m pm)) pa.line X.env = pure false)
    (hb : ∀ (W : WX) (pn : List (Addr × Obj)) (xe : Value → Shared → Prop), Takes (X.tr pn xe) W → PassesOwn (model X.prog X.w) X.A X.env xe → PSs (X.tr pn xe) body (tb W))
    (hdn : (n == ("__debug__" : Str)) = false := by decide) (hcn : (n == ("__classdict__" : Str)) = false := by decide) (hK : X.K = K := by rfl) :
    PS X (.Try body [.ExceptHandler (some (.Name x np)) (some n) [.Assign [.Name m pm] (.Name n pn2) pa] pos'] [] [] pos) (tTryK K c i j Wout tb) := by subst hK; exact ps_try_keep hs hf hex hN hi hln hj hlm hij hc tk hsw hb hdn hcn
end
end J

/-! Joinside, len(set(xs)) of a list of ints, unlike ones or not. -/
namespace J
open PySem PySem.Spec PyProof.Rows L2
theorem met_le (f : Nat → Int) : ∀ n, (firstMet f n).length ≤ n
  | 0 => Nat.le_refl _
  | n + 1 => by
    have ih := met_le f n
    rw [firstMet_succ]; unfold step_dedup
    split
    · omega
    · rw [List.length_append, List.length_singleton]; omega
theorem met_full (f : Nat → Int) : ∀ n, (firstMet f n).length = n → firstMet f n = (List.range n).map f ∧ (firstMet f n).Nodup
  | 0, _ => ⟨rfl, List.nodup_nil⟩
  | n + 1, h => by
    have le := met_le f n
    rw [firstMet_succ] at h ⊢; unfold step_dedup at h ⊢
    split at h
    · omega
    · rename_i no
      rw [if_neg no]
      rw [List.length_append, List.length_singleton] at h
      obtain ⟨e, nd⟩ := met_full f n (by omega)
      refine ⟨by rw [List.range_succ, List.map_append, e]; rfl, ?_⟩
      rw [List.nodup_append]
      refine ⟨nd, by simp, ?_⟩
      intro a ha b hb
      rw [List.mem_singleton] at hb
      subst hb
      intro z
      subst z
      exact no (List.any_eq_true.mpr ⟨_, ha, beq_self_eq_true _⟩)
theorem met_nd (f : Nat → Int) : ∀ n, ((List.range n).map f).Nodup → firstMet f n = (List.range n).map f
  | 0, _ => rfl
  | n + 1, h => by
    rw [List.range_succ, List.map_append, List.nodup_append] at h
    obtain ⟨h1, _, h2⟩ := h
    have ih := met_nd f n h1
    rw [firstMet_succ, ih]; unfold step_dedup
    have no : ¬ (((List.range n).map f).any (· == f n)) = true := by
      intro z
      obtain ⟨x, hx, e⟩ := List.any_eq_true.mp z
      exact h2 x hx (f n) (by simp) (beq_iff_eq.mp e)
    rw [if_neg no, List.range_succ, List.map_append]
    rfl
theorem range_getD (ns : List Int) : (List.range ns.length).map (fun i => ns.getD i 0) = ns := by
  apply List.ext_getElem
  · simp
  · intro i h1 h2
    simp [h2]
theorem met_iff (ns : List Int) : (firstMet (fun i => ns.getD i 0) ns.length).length = ns.length ↔ ns.Nodup := by
  constructor
  · intro h
    obtain ⟨e, nd⟩ := met_full _ _ h
    rw [e, range_getD] at nd
    exact nd
  · intro h
    rw [met_nd _ _ (by rw [range_getD]; exact h), range_getD]
theorem ints_vals : ∀ {ns : List Int} {us : List Value}, Vals (ns.map V.int) us → IntsAre us ns
  | [], _, .nil => .nil
  | n :: ns, _, .cons r t => by
    obtain ⟨k, rfl⟩ := r
    exact .cons n k (ints_vals t)
def tLenSet (K : PySem.W.Frag) (ta : TE) : TE := fun σ H Q => ta σ H fun x H1 => ∃ (l : Addr) (ns : List Int), x = .ref l ∧ SqL K H1 l (ns.map V.int) ∧ ns.length ≤ 1000 ∧ ∀ k : Nat, k ≤ ns.length → (k = ns.length ↔ ns.Nodup) → Q (.int k) H1
theorem pe_lenSetA {X : Cx} {a : Expr} {ta : TE} {p p2 q pos : Pos} (hg : Gl X "len") (hm : X.mg "len" = none) (hg2 : Gl X "set") (hm2 : X.mg "set" = none) (ha : PE X a ta) {K : PySem.W.Frag} (hc : X.calm = true := by rfl)
    (na : starEach [a] X.env = (false, eval a X.env) :: starEach [] X.env := by rfl) (hK : X.K = K := by rfl) : PE X (.Call (.Name "len" p) [.Call (.Name "set" p2) [a] [] q] [] pos) (tLenSet K ta) := by
  subst hK
  refine ⟨fun pins s σ H Q I h => Call_ (ld_blt I hg hm boot_len ?_)⟩
  refine callWith_builtin1 (args_cons ?_ rfl) rfl rfl
  refine Call_ (ld_blt I hg2 hm2 boot_set ?_)
  refine callWith_type1 (args_cons (thn (ha.run pins s σ H _ I h) fun v s1 got => args_nil ?_) na) na rfl
  obtain ⟨x, H1, I1, r1, l, ns, rfl, hq, hl, q1⟩ := got
  cases r1
  obtain ⟨its, r, pl, hz⟩ := I1.list hq
  have size_is : its.toArray.size = ns.length := by rw [List.size_toArray, ← r.length, List.length_map]
  refine call_set_list (ns := ns) (I1.ok.hd hc) pl.isList (by simpa using ints_vals r) (Nat.lt_of_le_of_lt (m := 1001) (by omega) (by decide)) fun h' tk hS hk => args_nil ?_
  rw [size_is] at hS
  obtain ⟨o, es, ep, t, ho, hex, hd, _, _, _, hf, hn⟩ := hS
  have le := met_le (fun i => ns.getD i 0) ns.length
  have I2 : Inv X pins σ H1 { s1 with heap := h', toks := tk } := I1.kept fun b o e => hk b o (Heap.lt_size e) e
  refine call_len_set ho hex hd hf (by rw [hn] <;> omega) ⟨.int ((firstMet (fun i => ns.getD i 0) ns.length).length : Nat), H1, I2.tok _, ⟨_, by rw [hn]⟩, q1 _ le (met_iff ns)⟩
theorem s_lset {K : PySem.W.Frag} {ta : TE} {σ : Sl} {H : Hp} {Q : VK} (q : ta σ H fun x H1 => ∃ (l : Addr) (ns : List Int), x = .ref l ∧ SqL K H1 l (ns.map V.int) ∧ ns.length ≤ 1000 ∧ ∀ k : Nat, k ≤ ns.length → (k = ns.length ↔ ns.Nodup) → Q (.int k) H1) : tLenSet K ta σ H Q := q
end J

/-! Joinside, webs as relations: masks made of a relation, its ties in order; lists of pairs, sorted. -/
namespace J
open PySem PySem.Spec L2
abbrev Rel := Nat → Nat → Bool
def bitsOf (f : Nat → Bool) : Nat → Nat
  | 0 => 0
  | n + 1 => bitsOf f n ^^^ (if f n = true then 2 ^ n else 0)
theorem bitsOf_bit (f : Nat → Bool) (j : Nat) : ∀ n, (bitsOf f n).testBit j = (decide (j < n) && f j)
  | 0 => by simp [bitsOf]
  | n + 1 => by
    rw [bitsOf, Nat.testBit_xor, bitsOf_bit f j n]
    by_cases e : j = n
    · subst e
      cases h : f j <;> simp
    · by_cases l : j < n
      · cases h : f n <;> simp [Nat.testBit_two_pow, l, show j < n + 1 by omega, show ¬ n = j by omega]
      · cases h : f n <;> simp [Nat.testBit_two_pow, l, show ¬ j < n + 1 by omega, show ¬ n = j by omega]
theorem bitsOf_congr {f g : Nat → Bool} {n m : Nat} (h : ∀ j, (decide (j < n) && f j) = (decide (j < m) && g j)) : bitsOf f n = bitsOf g m :=
  Nat.eq_of_testBit_eq fun j => by rw [bitsOf_bit, bitsOf_bit, h]
/-- the masks of a relation on n points -/
def webM (n : Nat) (R : Rel) : List Nat := (List.range n).map fun i => bitsOf (R i) n
theorem webM_len (n : Nat) (R : Rel) : (webM n R).length = n := by simp [webM]
theorem webM_getD {n i : Nat} {R : Rel} (h : i < n) : (webM n R).getD i 0 = bitsOf (R i) n := by simp [webM, h]
theorem webM_bit {n i j : Nat} {R : Rel} (hi : i < n) (hj : j < n) : ((webM n R).getD i 0).testBit j = R i j := by rw [webM_getD hi, bitsOf_bit]; simp [hj]
theorem webM_congr {n : Nat} {R S : Rel} (h : ∀ i j, i < n → j < n → R i j = S i j) : webM n R = webM n S := by
  apply List.map_congr_left
  intro i hi
  refine bitsOf_congr fun j => ?_
  by_cases l : j < n
  · rw [h i j (List.mem_range.mp hi) l]
  · simp [l]
theorem ext_masks {ms ns : List Nat} (hl : ms.length = ns.length) (h : ∀ i j, i < ms.length → (ms.getD i 0).testBit j = (ns.getD i 0).testBit j) : ms = ns := by
  apply List.ext_getElem hl
  intro i h1 h2
  apply Nat.eq_of_testBit_eq
  intro j
  have q := h i j h1
  simpa [List.getD_eq_getElem?_getD, h1, h2] using q
/-- a relation with the tie of i and j turned -/
def togg (R : Rel) (i j : Nat) : Rel := fun a b => if (a = i ∧ b = j) ∨ (a = j ∧ b = i) then !R a b else R a b
theorem flip_webM {n i j : Nat} {R : Rel} (hi : i < n) (hj : j < n) (ne : i ≠ j) : flip (webM n R) i j = webM n (togg R i j) := by
  apply ext_masks
  · rw [flip_length, webM_len, webM_len]
  intro a b ha
  rw [flip_length, webM_len] at ha
  rw [webM_getD ha, bitsOf_bit]
  have li : i < (webM n R).length := by rw [webM_len]; exact hi
  have lj : j < (webM n R).length := by rw [webM_len]; exact hj
  have la : a < (webM n R).length := by rw [webM_len]; exact ha
  have e0 : ((webM n R).set i ((webM n R).getD i 0 ^^^ 2 ^ j)).getD j 0 = (webM n R).getD j 0 := by
    simp [List.getD_eq_getElem?_getD, List.getElem?_set, ne]
  unfold flip
  rw [e0]
  by_cases h1 : a = j
  · subst h1
    have e1 : (((webM n R).set i ((webM n R).getD i 0 ^^^ 2 ^ a)).set a ((webM n R).getD a 0 ^^^ 2 ^ i)).getD a 0 = (webM n R).getD a 0 ^^^ 2 ^ i := by
      simp [List.getD_eq_getElem?_getD, List.getElem?_set, lj]
    rw [e1, webM_getD ha, Nat.testBit_xor, bitsOf_bit, Nat.testBit_two_pow]
    unfold togg
    by_cases h2 : b = i
    · subst h2
      simp [hi]
    · simp [h2, Ne.symm ne, show ¬ i = b by omega]
  · by_cases h2 : a = i
    · subst h2
      have e1 : (((webM n R).set a ((webM n R).getD a 0 ^^^ 2 ^ j)).set j ((webM n R).getD j 0 ^^^ 2 ^ a)).getD a 0 = (webM n R).getD a 0 ^^^ 2 ^ j := by
        simp [List.getD_eq_getElem?_getD, List.getElem?_set, la, Ne.symm ne]
      rw [e1, webM_getD ha, Nat.testBit_xor, bitsOf_bit, Nat.testBit_two_pow]
      unfold togg
      by_cases h3 : b = j
      · subst h3
        simp [hj]
      · simp [h3, h1, show ¬ j = b by omega]
    · have e1 : (((webM n R).set i ((webM n R).getD i 0 ^^^ 2 ^ j)).set j ((webM n R).getD j 0 ^^^ 2 ^ i)).getD a 0 = (webM n R).getD a 0 := by
        simp [List.getD_eq_getElem?_getD, List.getElem?_set, show ¬ j = a by omega, show ¬ i = a by omega]
      rw [e1, webM_getD ha, bitsOf_bit]
      unfold togg
      simp [h1, h2]
theorem webM_none (n : Nat) : List.replicate n 0 = webM n (fun _ _ => false) := by
  apply ext_masks
  · rw [List.length_replicate, webM_len]
  intro i j hi
  rw [List.length_replicate] at hi
  rw [webM_getD hi, bitsOf_bit]
  simp [hi]
theorem webM_grow {n : Nat} {R : Rel} : webM n R ++ [0] = webM (n + 1) (fun a b => decide (a < n) && decide (b < n) && R a b) := by
  apply ext_masks
  · rw [List.length_append, webM_len, webM_len]; rfl
  intro i j hi
  rw [List.length_append, webM_len, List.length_singleton] at hi
  rw [webM_getD hi, bitsOf_bit]
  by_cases e : i < n
  · have e1 : (webM n R ++ [0]).getD i 0 = (webM n R).getD i 0 := by
      simp [List.getD_eq_getElem?_getD, List.getElem?_append_left (show i < (webM n R).length by rw [webM_len]; exact e)]
    rw [e1, webM_getD e, bitsOf_bit]
    by_cases l : j < n
    · simp [l, e, show j < n + 1 by omega]
    · simp [l]
  · have e2 : i = n := by omega
    subst e2
    have e1 : (webM i R ++ [0]).getD i 0 = 0 := by
      have : (webM i R).length = i := webM_len i R
      simp [List.getD_eq_getElem?_getD, List.getElem?_append_right, this]
    rw [e1]
    simp
/-! ### ties in order -/
def tiesR (n : Nat) (R : Rel) : List (Nat × Nat) := (List.range n).flatMap fun i => ((List.range n).filter fun o => decide (i < o) && R i o).map fun o => (i, o)
theorem pts_bits {f : Nat → Bool} {n : Nat} (h : n ≤ 30) : pts (bitsOf f n) = (List.range n).filter f := by
  obtain ⟨d, hd⟩ : ∃ d, 30 = n + d := ⟨30 - n, by omega⟩
  unfold pts
  rw [hd, List.range_add, List.filter_append]
  have e1 : (List.range n).filter (fun j => (bitsOf f n).testBit j) = (List.range n).filter f := by
    apply List.filter_congr
    intro j hj
    rw [bitsOf_bit]
    simp [List.mem_range.mp hj]
  have e2 : ((List.range d).map (n + ·)).filter (fun j => (bitsOf f n).testBit j) = [] := by
    rw [List.filter_eq_nil_iff]
    intro j hj
    obtain ⟨k, _, rfl⟩ := List.mem_map.mp hj
    rw [bitsOf_bit]
    simp only [Nat.not_lt.mpr (Nat.le_add_right n k), decide_false, Bool.false_and, Bool.false_eq_true, not_false_eq_true]
  rw [e1, e2, List.append_nil]
theorem fm_filter {α β : Type} (p : α → Prop) [DecidablePred p] (g : α → β) (l : List α) : (l.filterMap fun o => if p o then some (g o) else none) = (l.filter fun o => decide (p o)).map g := by
  induction l with
  | nil => rfl
  | cons x r ih =>
    by_cases h : p x
    · simp [h, ih]
    · simp [h, ih]
theorem ties_webM {n : Nat} {R : Rel} (h : n ≤ 30) : tiesM (webM n R) = tiesR n R := by
  rw [← tiesTo_all, webM_len]
  unfold tiesTo tiesR
  rw [List.flatMap_def]
  congr 1
  apply List.map_congr_left
  intro i hi
  unfold tiesAt
  rw [webM_getD (List.mem_range.mp hi), pts_bits h, fm_filter, List.filter_filter]
theorem mem_tiesR {n a b : Nat} {R : Rel} : (a, b) ∈ tiesR n R ↔ a < b ∧ b < n ∧ R a b = true := by
  unfold tiesR
  simp only [List.mem_flatMap, List.mem_range, List.mem_map, List.mem_filter, Bool.and_eq_true, decide_eq_true_eq, Prod.mk.injEq]
  constructor
  · rintro ⟨i, hi, o, ⟨ho, hl, hr⟩, rfl, rfl⟩
    exact ⟨hl, ho, hr⟩
  · rintro ⟨h1, h2, h3⟩
    exact ⟨a, by omega, b, ⟨h2, h1, h3⟩, rfl, rfl⟩
def lexLt (p q : Nat × Nat) : Prop := p.1 < q.1 ∨ (p.1 = q.1 ∧ p.2 < q.2)
theorem tiesR_lex (n : Nat) (R : Rel) : (tiesR n R).Pairwise lexLt := by
  unfold tiesR
  rw [List.flatMap_def, List.pairwise_flatten]
  constructor
  · intro l hl
    obtain ⟨i, _, rfl⟩ := List.mem_map.mp hl
    rw [List.pairwise_map]
    refine (List.pairwise_lt_range.filter _).imp ?_
    intro a b h
    exact .inr ⟨rfl, h⟩
  · rw [List.pairwise_map]
    refine List.pairwise_lt_range.imp ?_
    intro a b h x hx y hy
    obtain ⟨c, _, rfl⟩ := List.mem_map.mp hx
    obtain ⟨d, _, rfl⟩ := List.mem_map.mp hy
    exact .inl h
theorem tiesR_nodup (n : Nat) (R : Rel) : (tiesR n R).Nodup := (tiesR_lex n R).imp fun h e => by
  subst e
  rcases h with h | h <;> omega
theorem tiesR_congr {n : Nat} {R S : Rel} (h : ∀ i j, i < j → j < n → R i j = S i j) : tiesR n R = tiesR n S := by
  unfold tiesR
  rw [List.flatMap_def, List.flatMap_def]
  congr 1
  apply List.map_congr_left
  intro i hi
  congr 1
  apply List.filter_congr
  intro j hj
  by_cases l : i < j
  · rw [h i j l (List.mem_range.mp hj)]
  · simp [l]
theorem tiesR_le (n : Nat) (R : Rel) (h : n ≤ 30) : (tiesR n R).length ≤ 900 := by
  rw [← ties_webM h, ← tiesTo_all]
  have := tiesTo_length (webM n R) (webM n R).length (by rw [webM_len]; exact h)
  rw [webM_len] at this ⊢
  omega
/-- an ordered list of the same pairs is the one list -/
theorem lex_uniq {l m : List (Nat × Nat)} (p : l.Perm m) (hl : l.Pairwise lexLt) (hm : m.Pairwise lexLt) : l = m :=
  List.Perm.eq_of_pairwise (le := lexLt) (fun a b _ _ h1 h2 => by
    rcases h1 with h1 | h1 <;> rcases h2 with h2 | h2 <;> (first | omega)) hl hm p
/-! ### pairs as data -/
def pairD (q : Nat × Nat) : PyData := .tuple [.int q.1, .int q.2]
def pairsD (qs : List (Nat × Nat)) : List PyData := qs.map pairD
theorem pairs_lay : ∀ qs : List (Nat × Nat), PyData.canLayAll0 (pairsD qs) = true ∧ PyData.depthAll (pairsD qs) ≤ 1
  | [] => ⟨rfl, by decide⟩
  | q :: qs => by
    obtain ⟨h1, h2⟩ := pairs_lay qs
    refine ⟨?_, ?_⟩
    · show (PyData.canLayAll0 (pairD q :: pairsD qs)) = true
      simp only [PyData.canLayAll0, h1, pairD, PyData.canLay0, Bool.and_self]
    · show PyData.depthAll (pairD q :: pairsD qs) ≤ 1
      simp only [PyData.depthAll, pairD, PyData.depth]
      omega
theorem shaped_pairs (qs : List (Nat × Nat)) : SeqAt.shaped (.list (pairsD qs)) = true := by
  obtain ⟨h1, h2⟩ := pairs_lay qs
  unfold SeqAt.shaped
  rw [Bool.and_eq_true]
  refine ⟨h1, decide_eq_true ?_⟩
  simp only [PyData.depth]
  omega
theorem shaped_pair (q : Nat × Nat) : SeqAt.shaped (pairD q) = true := by
  unfold SeqAt.shaped
  rw [Bool.and_eq_true]
  refine ⟨rfl, decide_eq_true ?_⟩
  simp only [pairD, PyData.depth, PyData.depthAll]
  omega
theorem eqv_pair (p q : Nat × Nat) : PyData.eqv (pairD p) (pairD q) = decide (p = q) := by
  obtain ⟨a, b⟩ := p
  obtain ⟨c, d⟩ := q
  unfold pairD
  simp only [PyData.eqv, PyData.eqvAll, Bool.and_true, Prod.mk.injEq]
  rw [Bool.eq_iff_iff]
  simp only [Bool.and_eq_true, beq_iff_eq, decide_eq_true_eq]
  omega
theorem any_pair (qs : List (Nat × Nat)) (q : Nat × Nat) : ((pairsD qs).any fun z => PyData.eqv z (pairD q)) = decide (q ∈ qs) := by
  rw [Bool.eq_iff_iff, List.any_eq_true, decide_eq_true_eq]
  constructor
  · rintro ⟨x, hx, e⟩
    obtain ⟨p, hp, rfl⟩ := List.mem_map.mp hx
    rw [eqv_pair, decide_eq_true_eq] at e
    exact e ▸ hp
  · intro h
    exact ⟨_, List.mem_map.mpr ⟨q, h, rfl⟩, by rw [eqv_pair]; simp⟩
theorem eqv_pairs (ps qs : List (Nat × Nat)) : PyData.eqvAll (pairsD ps) (pairsD qs) = decide (ps = qs) := by
  induction ps generalizing qs with
  | nil => cases qs <;> simp [pairsD, PyData.eqvAll]
  | cons p ps ih =>
    cases qs with
    | nil => simp [pairsD, PyData.eqvAll]
    | cons q qs =>
      show PyData.eqvAll (pairD p :: pairsD ps) (pairD q :: pairsD qs) = _
      simp only [PyData.eqvAll]
      rw [eqv_pair, ih, Bool.eq_iff_iff]
      simp
section
variable {K : PySem.W.Frag} {H : Hp} {Q : VK} {x : V} {q : Nat × Nat} {a b : Addr} {xs ys : List V} {qs rs : List (Nat × Nat)}
theorem PairAt.dp (h : PairAt H x q) : Dp K H x (pairD q) := by
  obtain ⟨t, rfl, e⟩ := h
  exact .tup (SqT.of e) (.cons (.int _) (.cons (.int _) .nil))
theorem PairsAt.dp (h : PairsAt H xs qs) : DpAll K H xs (pairsD qs) := by
  induction h with
  | nil => exact .nil
  | cons p _ ih => exact .cons p.dp ih
theorem s_inP (hx : PairAt H x q) (h : SqL K H a xs) (hp : PairsAt H xs qs) (k : Q (.bl (decide (q ∈ qs))) H) : rInA K false x (.ref a) H Q :=
  s_inD hx.dp (.lst h hp.dp) (shaped_pair q) (shaped_pairs qs) (by rw [any_pair]; exact k)
theorem s_notInP (hx : PairAt H x q) (h : SqL K H a xs) (hp : PairsAt H xs qs) (k : Q (.bl (!decide (q ∈ qs))) H) : rInA K true x (.ref a) H Q :=
  s_notInD hx.dp (.lst h hp.dp) (shaped_pair q) (shaped_pairs qs) (by rw [any_pair]; exact k)
theorem s_eqP (h : SqL K H a xs) (hp : PairsAt H xs qs) (h' : SqL K H b ys) (hp' : PairsAt H ys rs) (k : Q (.bl (decide (qs = rs))) H) : rEqA K (.ref a) (.ref b) H Q :=
  s_eqD (.lst h hp.dp) (.lst h' hp'.dp) (shaped_pairs qs) (shaped_pairs rs) (by simp only [PyData.eqv]; rw [eqv_pairs]; exact k)
theorem s_neP (h : SqL K H a xs) (hp : PairsAt H xs qs) (h' : SqL K H b ys) (hp' : PairsAt H ys rs) (k : Q (.bl (!decide (qs = rs))) H) : rNeA K (.ref a) (.ref b) H Q :=
  s_neD (.lst h hp.dp) (.lst h' hp'.dp) (shaped_pairs qs) (shaped_pairs rs) (by simp only [PyData.eqv]; rw [eqv_pairs]; exact k)
/-! ### sorted pairs -/
/-- the pair that stands at a value -/
noncomputable def pairOf (H : Hp) (x : V) : Nat × Nat := open Classical in if h : ∃ q, PairAt H x q then h.choose else (0, 0)
theorem pairOf_eq (h : PairAt H x q) : pairOf H x = q := by
  have e : ∃ q, PairAt H x q := ⟨q, h⟩
  unfold pairOf
  rw [dif_pos e]
  obtain ⟨t, e1, e2⟩ := e.choose_spec
  obtain ⟨t', rfl, e3⟩ := h
  injection e1 with e1
  subst e1
  rw [e3] at e2
  injection e2 with e2
  injection e2 with e2
  injection e2 with e4 e5
  injection e4 with e4
  injection e5 with e5 _
  injection e5 with e5
  have h1 : e.choose.1 = q.1 := by omega
  have h2 : e.choose.2 = q.2 := by omega
  exact Prod.ext h1 h2
theorem PairsAt.map (h : PairsAt H xs qs) : xs.map (pairOf H) = qs := by
  induction h with
  | nil => rfl
  | cons p _ ih => rw [List.map_cons, ih, pairOf_eq p]
theorem PairsAt.all (h : PairsAt H xs qs) : ∀ x ∈ xs, PairAt H x (pairOf H x) := by
  induction h with
  | nil => intro x hx; cases hx
  | cons p _ ih =>
    intro x hx
    rcases List.mem_cons.mp hx with e | hx
    · subst e; rw [pairOf_eq p]; exact p
    · exact ih x hx
theorem PairsAt.of_all : ∀ {xs : List V}, (∀ x ∈ xs, PairAt H x (pairOf H x)) → PairsAt H xs (xs.map (pairOf H))
  | [], _ => .nil
  | x :: xs, h => .cons (h x List.mem_cons_self) (PairsAt.of_all fun y hy => h y (List.mem_cons_of_mem _ hy))
/-- sorted: the list of the same pairs in order -/
theorem s_sortP {ts : List (Nat × Nat)} (h : SqL K H a xs) (hp : PairsAt H xs qs) (pm : qs.Perm ts) (od : ts.Pairwise lexLt) (k : ∀ p ys, H p = none → PairsAt (upd H p (.lst ys)) ys ts → Q (.ref p) (upd H p (.lst ys))) : rSorted K [.ref a] H Q := by
  refine .inr ⟨a, xs, fun x => (((pairOf H x).1 : Int), ((pairOf H x).2 : Int)), rfl, h, fun x hx => ?_, fun ys p srt stb hn => ?_⟩
  · obtain ⟨t, e, e2⟩ := hp.all x hx
    exact ⟨t, e, e2⟩
  · refine k p ys hn ?_
    have all : ∀ x ∈ ys, PairAt H x (pairOf H x) := fun x hx => hp.all x (stb.perm.mem_iff.mp hx)
    have e0 : PairsAt H ys (ys.map (pairOf H)) := PairsAt.of_all all
    have pm2 : (ys.map (pairOf H)).Perm ts := by
      refine List.Perm.trans ?_ pm
      rw [← hp.map]
      exact stb.perm.map _
    have nd : (ys.map (pairOf H)).Nodup := pm2.nodup_iff.mpr (od.imp fun h e => by subst e; rcases h with h | h <;> omega)
    have sl : (ys.map (pairOf H)).Pairwise fun p q => ¬ lexLt q p := by
      rw [List.pairwise_map]
      refine List.Pairwise.imp ?_ srt
      intro x y hxy hl
      have := SrtO.lexB_no.mp hxy
      unfold lexLt at hl
      apply this
      dsimp only
      omega
    have sl2 : (ys.map (pairOf H)).Pairwise lexLt := by
      refine (List.pairwise_and_iff.mpr ⟨sl, nd⟩).imp ?_
      rintro ⟨a, b⟩ ⟨c, d⟩ ⟨h1, h2⟩
      unfold lexLt at h1 ⊢
      dsimp only at h1 ⊢
      by_cases e : a = c ∧ b = d
      · exact absurd (by rw [e.1, e.2]) h2
      · omega
    rw [lex_uniq pm2 sl2 od] at e0
    exact e0.same (Same.new hn)
end
end J

/-! Joinside, webs made of webs: new ones, parts, opposites. -/
namespace J
open PySem PySem.Spec L2
/-- a relation of ties -/
structure Sym (R : Rel) : Prop where
  sy : ∀ a b, R a b = R b a
  ir : ∀ a, R a a = false
/-- a relation up to a place -/
def fillTo (F : Rel) (i j : Nat) : Rel := fun a b => (decide (max a b < i) || (decide (max a b = i) && decide (min a b < j))) && F a b
theorem fill_start (F : Rel) (m : Nat) : webM m (fun _ _ => false) = webM m (fillTo F 0 0) := webM_congr fun a b _ _ => by simp [fillTo]
theorem fill_end (F : Rel) (m : Nat) : webM m (fillTo F m 0) = webM m F := webM_congr fun a b ha hb => by simp [fillTo, show max a b < m by omega]
theorem fill_next {F : Rel} (S : Sym F) (i m : Nat) : webM m (fillTo F i i) = webM m (fillTo F (i + 1) 0) := webM_congr fun a b ha hb => by
  unfold fillTo
  by_cases e : a = b
  · subst e; simp [S.ir]
  · have h1 : (max a b = i ∧ min a b < i) ↔ max a b = i := by omega
    have h2 : (decide (max a b < i) || (decide (max a b = i) && decide (min a b < i))) = (decide (max a b < i + 1) || (decide (max a b = i + 1) && decide (min a b < 0))) := by
      rw [Bool.eq_iff_iff]
      simp only [Bool.or_eq_true, Bool.and_eq_true, decide_eq_true_eq]
      omega
    rw [h2]
theorem fill_bit {F : Rel} {i j : Nat} (h : j < i) : fillTo F i j j i = false := by
  unfold fillTo
  have : ¬ max j i < i := by omega
  have h2 : ¬ min j i < j := by omega
  simp [h2]
  omega
theorem fill_no {F : Rel} {i j m : Nat} (S : Sym F) (h : j < i) (e : F j i = false) : webM m (fillTo F i j) = webM m (fillTo F i (j + 1)) := webM_congr fun a b ha hb => by
  unfold fillTo
  by_cases q : max a b = i ∧ min a b = j
  · have : F a b = false := by
      by_cases w : a < b
      · rw [show a = j by omega, show b = i by omega]; exact e
      · rw [show a = i by omega, show b = j by omega, S.sy]; exact e
    rw [this, Bool.and_false, Bool.and_false]
  · congr 1
    rw [Bool.eq_iff_iff]
    simp only [Bool.or_eq_true, Bool.and_eq_true, decide_eq_true_eq]
    omega
theorem fill_yes {F : Rel} {i j m : Nat} (S : Sym F) (h : j < i) (e : F j i = true) : webM m (togg (fillTo F i j) j i) = webM m (fillTo F i (j + 1)) := webM_congr fun a b ha hb => by
  unfold togg
  by_cases q : (a = j ∧ b = i) ∨ (a = i ∧ b = j)
  · rw [if_pos q]
    have f : F a b = true := by
      rcases q with ⟨rfl, rfl⟩ | ⟨rfl, rfl⟩
      · exact e
      · rw [S.sy]; exact e
    have h1 : fillTo F i j a b = false := by
      unfold fillTo
      have : ¬ max a b < i := by omega
      have h2 : ¬ min a b < j := by omega
      rw [decide_eq_false this, decide_eq_false h2]
      simp
    rw [h1]
    unfold fillTo
    have h3 : max a b = i := by omega
    have h4 : min a b < j + 1 := by omega
    rw [decide_eq_true h3, decide_eq_true h4, f]
    simp
  · rw [if_neg q]
    unfold fillTo
    congr 1
    rw [Bool.eq_iff_iff]
    simp only [Bool.or_eq_true, Bool.and_eq_true, decide_eq_true_eq]
    omega
def partR (R : Rel) (is : List Nat) : Rel := fun a b => R (is.getD a 0) (is.getD b 0)
theorem Sym.part {R : Rel} (S : Sym R) (is : List Nat) : Sym (partR R is) := ⟨fun _ _ => S.sy _ _, fun _ => S.ir _⟩
def oppR (R : Rel) : Rel := fun a b => decide (a ≠ b) && !R a b
theorem Sym.opp {R : Rel} (S : Sym R) : Sym (oppR R) := ⟨fun a b => by unfold oppR; rw [S.sy a b]; congr 1; rw [Bool.eq_iff_iff]; simp only [decide_eq_true_eq]; omega, fun a => by simp [oppR]⟩
theorem Sym.togg {R : Rel} {i j : Nat} (S : Sym R) (h : i ≠ j) : Sym (togg R i j) := by
  constructor
  · intro a b
    unfold J.togg
    rw [S.sy a b]
    have : ((a = i ∧ b = j) ∨ (a = j ∧ b = i)) ↔ ((b = i ∧ a = j) ∨ (b = j ∧ a = i)) := by omega
    simp only [this]
  · intro a
    unfold J.togg
    rw [if_neg (by omega), S.ir]
theorem nodup_ne {is : List Nat} (nd : is.Nodup) {i j : Nat} (hi : i < is.length) (hj : j < is.length) (ne : i ≠ j) : is.getD i 0 ≠ is.getD j 0 := by
  rw [List.getD_eq_getElem?_getD, List.getD_eq_getElem?_getD, List.getElem?_eq_getElem hi, List.getElem?_eq_getElem hj]
  intro e
  exact ne ((List.getElem_inj nd).mp e)
theorem getD_mem {l : List Nat} {j : Nat} (h : j < l.length) : l.getD j 0 ∈ l := List.mem_of_getElem? (getD_at h)
def sp_part (K : PySem.W.Frag) (C eP : Addr) : Sp := fun vs H Q E => ∃ (p l : Addr) (n : Nat) (R : Rel) (x : V), vs = [.ref p, x] ∧ WebAt C H p l (webM n R) ∧ n ≤ 30 ∧ Sym R ∧
  ((∃ nm, Th K H x nm ∧ nm ≠ "list" ∧ E (.ref eP) none H) ∨ (∃ a xs, x = .ref a ∧ H a = some (.lst xs) ∧ xs.length ≤ 1000 ∧ (∀ v ∈ xs, ∃ n, Th K H v n) ∧
    (∀ is : List Nat, xs = msk is → (∀ i ∈ is, i < n) → is.Nodup → 1 ≤ is.length → is.length ≤ 30 → ∀ p2 l2 H', Same H H' → H p2 = none → H l2 = none → WebAt C H' p2 l2 (webM is.length (partR R is)) → Q (.ref p2) H') ∧ (¬ PtsOk n 1 xs → E (.ref eP) none H)))
def sp_opposite (C : Addr) : Sp := fun vs H Q E => ∃ (p l : Addr) (n : Nat) (R : Rel), vs = [.ref p] ∧ WebAt C H p l (webM n R) ∧ 1 ≤ n ∧ n ≤ 30 ∧ Sym R ∧
  ∀ p2 l2 H', Same H H' → H p2 = none → H l2 = none → WebAt C H' p2 l2 (webM n (oppR R)) → Q (.ref p2) H'
theorem pts_le : ∀ {n : Nat} {is : List Nat}, is.Nodup → (∀ i ∈ is, i < n) → is.length ≤ n
  | 0, [], _, _ => Nat.le_refl _
  | 0, i :: _, _, h => absurd (h i List.mem_cons_self) (Nat.not_lt_zero _)
  | n + 1, is, nd, h => by
    have ih := pts_le (n := n) (is := is.erase n) (nd.erase n) fun i hi => by
      have := nd.mem_erase_iff.mp hi
      have := h i this.2
      omega
    rw [List.length_erase] at ih
    split at ih <;> omega
section
variable {K : PySem.W.Frag} {H : Hp} {Q : VK} {E : XK} {C eS eP : Addr} {n : Nat} {p l : Addr} {R : Rel} {i j : Nat} {Z : Addr → Hp → Prop}
theorem u_newWeb (h1 : 1 ≤ n) (h2 : n ≤ 30) (q : ∀ p l H', H p = none → H l = none → Same H H' → WebAt C H' p l (webM n fun _ _ => false) → Z p H') :
    ∀ x dx, H x = none → H dx = none → dx ≠ x → sp_Web_init K C eS [.ref x, .int n] (upd (upd H dx (.own x)) x (.ins C dx [])) (fun v H2 => v = .non ∧ Z x H2) E := by
  intro x dx hx hd ne
  refine ⟨x, dx, .int n, "int", rfl, upd_same, .int _, ?_, ?_⟩
  · intro k ek _ _ l H' hl same hW
    injection ek with ek
    have : k = n := by omega
    subst this
    rw [webM_none] at hW
    refine ⟨rfl, q x l H' hx (free_of (free_of hl)) ?_ hW⟩
    intro b o e
    refine same b o (ne_of_none e hx) ?_
    exact up_ne (ne_of_none e hx) (up_ne (ne_of_none e hd) e)
  · intro e
    rw [among_int, Bool.and_eq_false_iff, decide_eq_false_iff_not, decide_eq_false_iff_not] at e
    omega
theorem u_newWebE {x : V} {m : String} (t : Th K H x m) (h : among x 1 30 = false) (q : ∀ H', Same H H' → E (.ref eS) none H') :
    ∀ y dx, H y = none → H dx = none → dx ≠ y → sp_Web_init K C eS [.ref y, x] (upd (upd H dx (.own y)) y (.ins C dx [])) (fun v H2 => v = .non ∧ Z y H2) E := by
  intro y dx hy hd ne
  have S : Same H (upd (upd H dx (.own y)) y (.ins C dx [])) := Same.more (Same.new hd) (up_free (Ne.symm ne) hy)
  refine ⟨y, dx, x, m, rfl, upd_same, t.same S, ?_, fun _ => q _ S⟩
  rintro k rfl k1 k2
  rw [among_int, Bool.and_eq_false_iff, decide_eq_false_iff_not, decide_eq_false_iff_not] at h
  omega
theorem u_hasR (h : WebAt C H p l (webM n R)) (hi : i < n) (hj : j < n) (ne : i ≠ j) (q : Q (.bl (R i j)) H) : sp_Web_has K C eP [.ref p, .int i, .int j] H Q E :=
  u_has_ok h (by rw [webM_len]; exact hi) (by rw [webM_len]; exact hj) ne (by rw [webM_bit hi hj]; exact q)
theorem u_turnR {was : Bool} {eT : Addr} (h : WebAt C H p l (webM n R)) (hi : i < n) (hj : j < n) (ne : i ≠ j) (b : R i j = was) (q : WebAt C (upd H l (.lst (msk (webM n (togg R i j))))) p l (webM n (togg R i j)) → Q .non (upd H l (.lst (msk (webM n (togg R i j)))))) : sp_Web_turn was K C eP eT [.ref p, .int i, .int j] H Q E := by
  refine u_turn h (by rw [webM_len]; exact hi) (by rw [webM_len]; exact hj) ne (by rw [webM_bit hi hj]; exact b) ?_
  rw [flip_webM hi hj ne]
  exact q (h.put (by rw [webM_len]; have := h.sz; rw [webM_len] at this; exact this))
theorem u_manyR (h : WebAt C H p l (webM n R)) (q : Q (.int n) H) : sp_Web_many C [.ref p] H Q E := u_many h (by rw [webM_len]; exact q)
theorem u_tiesR (h : WebAt C H p l (webM n R)) (q : ∀ q xs H', Same H H' → H q = none → H' q = some (.lst xs) → PairsAt H' xs (tiesR n R) → Q (.ref q) H') : sp_Web_ties C [.ref p] H Q E := by
  have hn : n ≤ 30 := by have := h.sz; rw [webM_len] at this; exact this
  refine ⟨p, l, _, rfl, h, ?_⟩
  rw [ties_webM hn]
  exact q
end
end J

/-! Joinside, the laws' own lists of ties. -/
namespace J
open PySem PySem.Spec L2
/-- the list has each tie of the relation once -/
structure Tell (L : List (Nat × Nat)) (n : Nat) (R : Rel) : Prop where
  nd : L.Nodup
  me : ∀ a b, (a, b) ∈ L ↔ a < b ∧ b < n ∧ R a b = true
theorem perm_of {α : Type} [DecidableEq α] : ∀ {l m : List α}, l.Nodup → m.Nodup → (∀ x, x ∈ l ↔ x ∈ m) → l.Perm m
  | [], m, _, _, h => by
    cases m with
    | nil => exact .refl _
    | cons x r => exact absurd ((h x).mpr List.mem_cons_self) (by simp)
  | x :: l, m, hl, hm, h => by
    have hx : x ∈ m := (h x).mp List.mem_cons_self
    obtain ⟨nx, nl⟩ := List.nodup_cons.mp hl
    have ih := perm_of (l := l) (m := m.erase x) nl (hm.erase x) fun y => by
      rw [hm.mem_erase_iff, ← h y, List.mem_cons]
      constructor
      · intro hy
        exact ⟨fun e => nx (e ▸ hy), .inr hy⟩
      · rintro ⟨h1, h2 | h2⟩
        · exact absurd h2 h1
        · exact h2
    exact (ih.cons x).trans (List.perm_cons_erase hx).symm
theorem Tell.perm {L : List (Nat × Nat)} {n : Nat} {R : Rel} (h : Tell L n R) : L.Perm (tiesR n R) := perm_of h.nd (tiesR_nodup n R) fun ⟨a, b⟩ => by rw [h.me, mem_tiesR]
theorem Tell.len {L : List (Nat × Nat)} {n : Nat} {R : Rel} (h : Tell L n R) (hn : n ≤ 30) : L.length ≤ 900 := by rw [h.perm.length_eq]; exact tiesR_le n R hn
theorem tell_R (n : Nat) (R : Rel) : Tell (tiesR n R) n R := ⟨tiesR_nodup n R, fun a b => mem_tiesR⟩
theorem tell_nil (n : Nat) : Tell [] n (fun _ _ => false) := ⟨List.nodup_nil, fun a b => by simp⟩
theorem Tell.put {L : List (Nat × Nat)} {n a b : Nat} {R : Rel} (h : Tell L n R) (S : Sym R) (ha : a < n) (hb : b < n) (ne : a ≠ b) (no : R a b = false) : Tell (L ++ [(min a b, max a b)]) n (togg R a b) := by
  have nR : R (min a b) (max a b) = false := by
    by_cases q : a ≤ b
    · rw [Nat.min_eq_left q, Nat.max_eq_right q]; exact no
    · rw [Nat.min_eq_right (by omega), Nat.max_eq_left (by omega), S.sy]; exact no
  have nL : (min a b, max a b) ∉ L := fun z => by
    have := ((h.me _ _).mp z).2.2
    rw [nR] at this
    cases this
  constructor
  · rw [List.nodup_append]
    refine ⟨h.nd, by simp, fun x hx y hy => ?_⟩
    rw [List.mem_singleton] at hy
    subst hy
    exact fun e => nL (e ▸ hx)
  · intro x y
    rw [List.mem_append, List.mem_singleton, h.me, Prod.mk.injEq]
    unfold togg
    by_cases q : (x = a ∧ y = b) ∨ (x = b ∧ y = a)
    · rw [if_pos q]
      have e : R x y = false := by rcases q with ⟨rfl, rfl⟩ | ⟨rfl, rfl⟩; exact no; rw [S.sy]; exact no
      rw [e]
      simp only [Bool.false_eq_true, and_false, false_or, Bool.not_false, and_true]
      omega
    · rw [if_neg q]
      constructor
      · rintro (h | h)
        · exact h
        · omega
      · intro h
        exact .inl h
theorem nd_erase {α : Type} [BEq α] [LawfulBEq α] : ∀ {l : List α} {i : Nat} {x : α}, l.Nodup → l[i]? = some x → l.eraseIdx i = l.erase x
  | y :: r, 0, x, _, h => by
    have e : y = x := by simpa using h
    subst e
    simp
  | y :: r, i + 1, x, nd, h => by
    have hr : r[i]? = some x := by simpa using h
    obtain ⟨n1, n2⟩ := List.nodup_cons.mp nd
    have ne : y ≠ x := fun e => n1 (e ▸ List.mem_of_getElem? hr)
    rw [List.eraseIdx_cons_succ, nd_erase n2 hr, List.erase_cons_tail (by simpa using ne)]
theorem Tell.drop {L : List (Nat × Nat)} {n i a b : Nat} {R : Rel} (h : Tell L n R) (S : Sym R) (hi : L[i]? = some (a, b)) : Tell (L.eraseIdx i) n (togg R a b) ∧ a < b ∧ b < n ∧ R a b = true := by
  obtain ⟨hl, he⟩ := List.getElem?_eq_some_iff.mp hi
  have ab := (h.me a b).mp (List.mem_of_getElem? hi)
  refine ⟨⟨h.nd.eraseIdx _, fun x y => ?_⟩, ab⟩
  have e1 : (x, y) ∈ L.eraseIdx i ↔ (x, y) ≠ (a, b) ∧ (x, y) ∈ L := by
    have : L.eraseIdx i = L.erase (a, b) := by
      exact nd_erase h.nd hi
    rw [this, h.nd.mem_erase_iff]
  rw [e1, h.me]
  unfold togg
  by_cases q : (x = a ∧ y = b) ∨ (x = b ∧ y = a)
  · rw [if_pos q]
    rcases q with ⟨rfl, rfl⟩ | ⟨rfl, rfl⟩
    · rw [ab.2.2]; simp
    · rw [S.sy, ab.2.2]
      simp
      omega
  · rw [if_neg q]
    constructor
    · exact fun z => z.2
    · intro z
      refine ⟨fun e => q (.inl ?_), z⟩
      injection e with e1 e2
      exact ⟨e1, e2⟩
theorem Tell.in {L : List (Nat × Nat)} {n a b : Nat} {R : Rel} (h : Tell L n R) (S : Sym R) (ha : a < n) (hb : b < n) (ne : a ≠ b) : decide ((min a b, max a b) ∈ L) = R a b := by
  rw [Bool.eq_iff_iff, decide_eq_true_eq, h.me]
  by_cases q : a ≤ b
  · rw [Nat.min_eq_left q, Nat.max_eq_right q]
    exact ⟨fun z => z.2.2, fun z => ⟨by omega, hb, z⟩⟩
  · rw [Nat.min_eq_right (by omega), Nat.max_eq_left (by omega), S.sy]
    exact ⟨fun z => z.2.2, fun z => ⟨by omega, ha, z⟩⟩
/-! ### the other ties, one point after another -/
def othAt (n : Nat) (R : Rel) (i : Nat) : List (Nat × Nat) := ((List.range (n - (i + 1))).map (i + 1 + ·)).filterMap fun o => if oppR R i o = true then some (i, o) else none
def othTo (n : Nat) (R : Rel) (i : Nat) : List (Nat × Nat) := (List.range i).flatMap (othAt n R)
theorem othTo_succ {n i : Nat} {R : Rel} (_ : i < n) : othTo n R (i + 1) = othTo n R i ++ othAt n R i := by
  unfold othTo
  rw [List.range_succ, List.flatMap_append]
  simp
theorem othAt_eq {n i : Nat} {R : Rel} (h : i < n) : othAt n R i = ((List.range n).filter fun o => decide (i < o) && oppR R i o).map fun o => (i, o) := by
  unfold othAt
  rw [fm_filter]
  congr 1
  obtain ⟨d, rfl⟩ : ∃ d, n = (i + 1) + d := ⟨n - (i + 1), by omega⟩
  rw [List.range_add, List.filter_append, show i + 1 + d - (i + 1) = d by omega]
  have e1 : (List.range (i + 1)).filter (fun o => decide (i < o) && oppR R i o) = [] := by
    rw [List.filter_eq_nil_iff]
    intro o ho
    have := List.mem_range.mp ho
    rw [decide_eq_false (by omega)]
    simp
  rw [e1, List.nil_append]
  apply List.filter_congr
  intro o ho
  obtain ⟨k, _, rfl⟩ := List.mem_map.mp ho
  rw [decide_eq_true (show i < i + 1 + k by omega), Bool.true_and]
  simp
theorem othTo_all (n : Nat) (R : Rel) : othTo n R n = tiesR n (oppR R) := by
  unfold othTo tiesR
  rw [List.flatMap_def, List.flatMap_def]
  congr 1
  apply List.map_congr_left
  intro i hi
  exact othAt_eq (List.mem_range.mp hi)
theorem othAt_le (n : Nat) (R : Rel) (i : Nat) : (othAt n R i).length ≤ n := by
  unfold othAt
  refine Nat.le_trans (List.length_filterMap_le _ _) ?_
  simp
theorem othTo_le (n : Nat) (R : Rel) : ∀ i, (othTo n R i).length ≤ n * i
  | 0 => by simp [othTo]
  | i + 1 => by
    have ih := othTo_le n R i
    have a := othAt_le n R i
    unfold othTo at ih ⊢
    rw [List.range_succ, List.flatMap_append, List.length_append, Nat.mul_succ]
    simp only [List.flatMap_cons, List.flatMap_nil, List.append_nil]
    omega
/-- a list of the pairs of F below a place -/
structure TellTo (L : List (Nat × Nat)) (F : Rel) (i j : Nat) : Prop where
  nd : L.Nodup
  me : ∀ b a, (b, a) ∈ L ↔ b < a ∧ (a < i ∨ (a = i ∧ b < j)) ∧ F b a = true
theorem tellTo_nil (F : Rel) : TellTo [] F 0 0 := ⟨List.nodup_nil, fun b a => by simp⟩
theorem TellTo.next {L : List (Nat × Nat)} {F : Rel} {i : Nat} (h : TellTo L F i i) : TellTo L F (i + 1) 0 := ⟨h.nd, fun b a => by rw [h.me]; constructor <;> (rintro ⟨h1, h2, h3⟩; exact ⟨h1, by omega, h3⟩)⟩
theorem TellTo.no {L : List (Nat × Nat)} {F : Rel} {i j : Nat} (h : TellTo L F i j) (e : F j i = false) : TellTo L F i (j + 1) := ⟨h.nd, fun b a => by
  rw [h.me]
  constructor
  · rintro ⟨h1, h2, h3⟩
    exact ⟨h1, by omega, h3⟩
  · rintro ⟨h1, h2, h3⟩
    refine ⟨h1, ?_, h3⟩
    by_cases q : b = j ∧ a = i
    · obtain ⟨rfl, rfl⟩ := q
      rw [e] at h3
      cases h3
    · omega⟩
theorem TellTo.yes {L : List (Nat × Nat)} {F : Rel} {i j : Nat} (h : TellTo L F i j) (l : j < i) (e : F j i = true) : TellTo (L ++ [(j, i)]) F i (j + 1) := by
  constructor
  · rw [List.nodup_append]
    refine ⟨h.nd, by simp, fun x hx y hy => ?_⟩
    rw [List.mem_singleton] at hy
    subst hy
    intro z
    subst z
    have := ((h.me _ _).mp hx).2.1
    omega
  · intro b a
    rw [List.mem_append, List.mem_singleton, h.me, Prod.mk.injEq]
    constructor
    · rintro (⟨h1, h2, h3⟩ | ⟨rfl, rfl⟩)
      · exact ⟨h1, by omega, h3⟩
      · exact ⟨l, by omega, e⟩
    · rintro ⟨h1, h2, h3⟩
      by_cases q : b = j ∧ a = i
      · exact .inr q
      · exact .inl ⟨h1, by omega, h3⟩
theorem TellTo.tell {L : List (Nat × Nat)} {F : Rel} {m : Nat} (h : TellTo L F m 0) : Tell L m F := ⟨h.nd, fun a b => by
  rw [h.me]
  constructor
  · rintro ⟨h1, h2, h3⟩
    exact ⟨h1, by omega, h3⟩
  · rintro ⟨h1, h2, h3⟩
    exact ⟨h1, by omega, h3⟩⟩
theorem togg_comm (R : Rel) (i j : Nat) : togg R i j = togg R j i := by
  funext a b
  unfold togg
  have : ((a = i ∧ b = j) ∨ (a = j ∧ b = i)) ↔ ((a = j ∧ b = i) ∨ (a = i ∧ b = j)) := by omega
  simp only [this]
theorem Tell.congr {L : List (Nat × Nat)} {n : Nat} {R S : Rel} (h : Tell L n R) (e : ∀ a b, a < b → b < n → R a b = S a b) : Tell L n S := ⟨h.nd, fun a b => by
  rw [h.me]
  constructor
  · rintro ⟨h1, h2, h3⟩
    exact ⟨h1, h2, by rw [← e a b h1 h2]; exact h3⟩
  · rintro ⟨h1, h2, h3⟩
    exact ⟨h1, h2, by rw [e a b h1 h2]; exact h3⟩⟩
theorem tell_opp2 {L : List (Nat × Nat)} {n : Nat} {R : Rel} (h : Tell L n R) : Tell L n (oppR (oppR R)) := h.congr fun a b h1 _ => by
  unfold oppR
  rw [decide_eq_true (by omega : a ≠ b)]
  simp
theorem Tell.of_perm {L M : List (Nat × Nat)} {n : Nat} {R : Rel} (h : Tell L n R) (p : M.Perm L) : Tell M n R := ⟨p.nodup_iff.mpr h.nd, fun a b => by rw [p.mem_iff, h.me]⟩
theorem perm_eraseAt {α : Type} {l : List α} {j : Nat} {x : α} (h : l[j]? = some x) : (x :: l.eraseIdx j).Perm l := by
  induction l generalizing j with
  | nil => cases h
  | cons y r ih =>
    cases j with
    | zero =>
      have e : y = x := by simpa using h
      subst e
      exact List.Perm.refl _
    | succ j =>
      have q := ih (j := j) (by simpa using h)
      rw [List.eraseIdx_cons_succ]
      exact (List.Perm.swap y x _).trans (q.cons y)
theorem Tell.back {L : List (Nat × Nat)} {n j : Nat} {q : Nat × Nat} {R : Rel} (h : Tell L n R) (hj : L[j]? = some q) : Tell (L.eraseIdx j ++ [q]) n R := by
  refine h.of_perm ?_
  refine (List.perm_append_comm).trans ?_
  exact perm_eraseAt hj
theorem PairsAt.at : ∀ {H : Hp} {xs : List V} {L : List (Nat × Nat)} {j : Nat}, PairsAt H xs L → j < L.length → ∃ x q, xs[j]? = some x ∧ L[j]? = some q ∧ PairAt H x q
  | _, _, _, 0, .cons a _, _ => ⟨_, _, rfl, rfl, a⟩
  | _, _, _, j + 1, .cons _ b, h => by
    obtain ⟨x, q, h1, h2, h3⟩ := PairsAt.at (j := j) b (by simpa using h)
    exact ⟨x, q, by simpa using h1, by simpa using h2, h3⟩
  | _, _, _, _, .nil, h => absurd h (by simp)
theorem PairsAt.erase : ∀ {H : Hp} {xs : List V} {L : List (Nat × Nat)} {j : Nat}, PairsAt H xs L → PairsAt H (xs.eraseIdx j) (L.eraseIdx j)
  | _, _, _, 0, .cons _ b => b
  | _, _, _, j + 1, .cons a b => .cons a (PairsAt.erase (j := j) b)
  | _, _, _, _, .nil => .nil
end J

/-! Joinside, dicts of pairs: sorted(d), d.pop(k), what stands in them. -/
namespace J
open PySem PySem.Spec PyProof.Rows L2
section
variable {prog : Program} {w : World} {d : Addr} {o : Obj} {es : Array DictEntry} {ep : Nat}
theorem raw_walks {A : Around} (hh : A.handled = none) (I : Addr) (hne : d ≠ I) (hdt : o.data = .dict es ep) :
    Walks prog w A I [I, d] [I] es.size (fun i v => ∃ en, es[i]? = some en ∧ en.key = v) (fun i h => h.IsKeyIter I d i es.size ep ∧ h.get? d = some o) where
  sub := fun b hb => by rw [List.mem_singleton] at hb; subst hb; exact List.mem_cons_self
  frame := fun i h h' st hk => ⟨st.1.at fun q e => hk I List.mem_cons_self q e, hk d (by simp) _ st.2⟩
  item := fun i s Q E hi st hQ => by
    obtain ⟨en, hen⟩ : ∃ en, es[i]? = some en := ⟨es[i], Array.getElem?_eq_getElem hi⟩
    refine next_key_item st.1 st.2 hdt rfl hen fun h' st' sb => ?_
    exact hQ en.key h' s.toks ⟨en, hen, rfl⟩ ⟨st', (sb.2 d hne).trans st.2⟩ fun b q hb e => (sb.2 b fun z => hb (List.mem_singleton.mpr z)).trans e
  done := fun s Q E st hQ => next_key_end hh st.1 st.2 hdt rfl (Nat.le_refl _) fun h' eb => hQ h' s.toks fun b q hb e => eb b q (fun z => hb (List.mem_singleton.mpr z)) e
  self := fun i s Q E st hQ => wpAny_pyIter_keyiter st.1 hQ
theorem raw_src (lo : (d == sysModules) = false) (hx : o.ExactDict) (hdt : o.data = .dict es ep) : PySem.W.KdlSrc prog w "dict" d d es.size (fun i v => ∃ en, es[i]? = some en ∧ en.key = v) (fun h => h.get? d = some o) where
  type := fun _ hm => ⟨o, hm, hx.1⟩
  there := fun _ hm => ⟨Heap.lt_size hm, Heap.lt_size hm⟩
  keep := fun _ _ hm hk => hk d (.inl rfl) o hm
  notList := by decide
  notTuple := by decide
  hint := fun _ _ s _ hm hq => PySem.W.kdl_hint_dict ⟨o, hm, hx.1⟩ hq
  iter := fun A s hh hm => ⟨_, _, (fun _ _ hq => iter_keys lo hm hx hdt hq), raw_walks hh _ (Nat.ne_of_lt (Heap.lt_size hm)) hdt, ⟨⟨_, Heap.get?_push_size _ rfl, rfl, rfl⟩, Heap.get?_push_of_some _ hm⟩⟩
end
/-- the entries of a dict of ties -/
def tieK (q : Nat × Nat) : List Key := [.inl (q.1 : Int), .inl (q.2 : Int)]
def rSortDT : List V → Hp → VK → Prop := fun xs H Q => ∃ (a : Addr) (kvs : List (List Key × V)) (qs ts : List (Nat × Nat)), xs = [.ref a] ∧ H a = some (.dT kvs) ∧ kvs.map (·.1) = qs.map tieK ∧ qs.Perm ts ∧ ts.Pairwise lexLt ∧
  ∀ p ys, H p = none → PairsAt (upd H p (.lst ys)) ys ts → Q (.ref p) (upd H p (.lst ys))
theorem kt_pairs {H : Hp} : ∀ {kvs : List (List Key × V)} {xs : List (List Key × Addr × Value)} {qs : List (Nat × Nat)}, KT H kvs xs → kvs.map (·.1) = qs.map tieK → PairsAt H (xs.map fun x => V.ref x.2.1) qs
  | _, _, [], .nil, _ => .nil
  | _, _, _ :: _, .nil, h => by cases h
  | _, _, [], .cons _ _, h => by cases h
  | kv :: kvs, x :: xs, q :: qs, .cons a b, h => by
    simp only [List.map_cons, List.cons.injEq] at h
    refine .cons ⟨x.2.1, rfl, ?_⟩ (kt_pairs b h.2)
    rw [a.2.1, h.1]
    rfl
theorem PairAt.isPair {X : Cx} {pins : List (Addr × Obj)} {σ : L2.St} {H : Hp} {s : Shared} {t : Addr} {q : Nat × Nat} (I : Inv X pins σ H s) (h : PairAt H (.ref t) q) : Srt.IsPair s.heap (.ref t) q.1 q.2 := by
  obtain ⟨t', e, ht⟩ := h
  cases e
  obtain ⟨_, its2, r2, o, ho, hc, n, hd⟩ := I.hok _ _ ht
  obtain ⟨u1, u2, rfl, ri, rj⟩ := vals2 r2
  obtain ⟨t1, rfl⟩ := ri
  obtain ⟨t2, rfl⟩ := rj
  exact ⟨t, o, t1, t2, n, rfl, ho, hc, hd⟩
def refV (xs : List (List Key × Addr × Value)) : List Value := xs.map fun x => Value.ref x.2.1
theorem kSortDT {X : Cx} (hcalm : X.calm = true) : CallR X (.builtin "sorted") rSortDT := by
  intro pins s σ H xs us Q I r q
  obtain ⟨a, kvs, qs, ts, rfl, ha, hks, pm, od, q⟩ := q
  obtain ⟨u, rfl, rx⟩ := vals1 r
  cases rx
  obtain ⟨z, lo, xs', rel, dd⟩ := dt_of I.hok ha
  obtain ⟨o, es, ep, ho, hx, hdt, he, _, _⟩ := dd
  have pairs : PairsAt H (xs'.map fun x => V.ref x.2.1) qs := kt_pairs rel hks
  have size_es : es.size = xs'.length := size_of_entries he
  have size_xs : xs'.length = kvs.length := (Paired.length rel).symm
  refine Calls.call_function_entry kind_sorted plain_sorted entry_sorted (args_sorted1 _) ?_
  unfold Builtin.«sorted»
  refine wpAny_bind (m := checkCount "sorted" 1 1 _) (wpAny_pure ?_)
  refine wpAny_bind (PySem.W.kdu_collect (A := X.A.in1) (raw_src lo hx hdt) (I.ok.hd hcalm) ho (by rw [size_es, size_xs]; exact z) fun h' tk acc hk hacc => ?_)
  have acc_is : acc.toList = refV xs' := by
    apply List.ext_getElem
    · rw [Array.length_toList, hacc.1, size_es, refV, List.length_map]
    · intro j h1 h2
      rw [Array.length_toList] at h1
      obtain ⟨en, e1, e2⟩ := hacc.2 j acc[j] (by simp [h1])
      have e3 := entry_at he j
      rw [e1] at e3
      have hj : j < xs'.length := by rw [refV, List.length_map] at h2; exact h2
      rw [List.getElem?_eq_getElem hj] at e3
      have e4 : en = entryOfKey (tupleKind (mixKind X.prog X.w)) xs'[j] := Option.some.inj e3
      rw [Array.getElem_toList, ← e2, e4]
      simp [refV, entryOfKey]
  rw [acc_is]
  have len_is : (refV xs').length ≤ sizeLine := by rw [refV, List.length_map, size_xs]; exact z
  have I1 : Inv X pins σ H { s with heap := h', toks := tk } := I.kept hk
  have pv : ∀ v ∈ refV xs', Srt.IsPair h' v ((fun u => ((pairOf H (backV u)).1 : Int)) v) ((fun u => ((pairOf H (backV u)).2 : Int)) v) := by
    intro v hv
    obtain ⟨x, hxm, rfl⟩ := List.mem_map.mp hv
    exact PairAt.isPair I1 (pairs.all _ (List.mem_map.mpr ⟨x, hxm, rfl⟩))
  refine wpAny_bind (wpAny_newList ?_ len_is)
  have hoL : (h'.push (seqObj "list" (refV xs').toArray 0)).get? h'.objs.size = some (seqObj "list" (refV xs').toArray 0) := Heap.get?_push_size _ rfl
  show wpAny _ _ _ _ _ { s with heap := h'.push (seqObj "list" (refV xs').toArray 0), toks := tk }
  refine wpAny_bind (wpAny_holding (wpAny_call_entry slot_list_sort ⟨_, hoL, rfl⟩ entry_list_sort
    (SrtO.list_sort_ord (s := { s with heap := h'.push (seqObj "list" (refV xs').toArray 0), toks := tk }) (SrtO.swo_lex fun u => (((pairOf H (backV u)).1 : Int), ((pairOf H (backV u)).2 : Int))) hoL len_is (fun h2 => ?_) fun out srt stb => ⟨_, rfl, ?_⟩) (args_list_sort _)))
  · refine SrtO.pairs_sortableO (by omega) (fun v hm => (pv v hm).keeps fun b o e _ => Heap.get?_push_of_some _ e) fun o e c => ?_
    rw [hoL] at e
    cases e
    exact absurd (Value.type.inj c) (by decide)
  · obtain ⟨e', he'⟩ := sortedHeap_at (vs := refV xs') (out := out.toArray) hoL
    have refs : ∀ u ∈ out, ∃ a, u = Value.ref a := fun u hu => by
      obtain ⟨x, _, e⟩ := List.mem_map.mp (stb.perm.mem_iff.mp hu)
      exact ⟨_, e.symm⟩
    have perm : (out.map backV).Perm (xs'.map fun x => V.ref x.2.1) := by
      have := stb.perm.map backV
      rwa [refV, List.map_map] at this
    have all : ∀ x ∈ out.map backV, PairAt H x (pairOf H x) := fun x hx => pairs.all x (perm.mem_iff.mp hx)
    have e0 : PairsAt H (out.map backV) ((out.map backV).map (pairOf H)) := PairsAt.of_all all
    have pm2 : ((out.map backV).map (pairOf H)).Perm ts := by
      refine List.Perm.trans ?_ pm
      rw [← pairs.map]
      exact perm.map _
    have nd : ((out.map backV).map (pairOf H)).Nodup := pm2.nodup_iff.mpr (od.imp fun h e => by subst e; rcases h with h | h <;> omega)
    have sl : ((out.map backV).map (pairOf H)).Pairwise fun p q => ¬ lexLt q p := by
      rw [List.pairwise_map, List.pairwise_map]
      refine List.Pairwise.imp ?_ srt
      intro x y hxy hl
      have := SrtO.lexB_no.mp hxy
      unfold lexLt at hl
      apply this
      dsimp only
      omega
    have sl2 : ((out.map backV).map (pairOf H)).Pairwise lexLt := by
      refine (List.pairwise_and_iff.mpr ⟨sl, nd⟩).imp ?_
      rintro ⟨a, b⟩ ⟨c, d⟩ ⟨h1, h2⟩
      unfold lexLt at h1 ⊢
      dsimp only at h1 ⊢
      by_cases e : a = c ∧ b = d
      · exact absurd (by rw [e.1, e.2]) h2
      · omega
    rw [lex_uniq pm2 sl2 od] at e0
    have hf : H h'.objs.size = none := I1.hok.fresh (Nat.le_refl _)
    refine wpAny_pure ⟨_, rfl, .ref h'.objs.size, upd H h'.objs.size (.lst (out.map backV)), I1.laid (t' := tk) (fun b u e => ?_) (Nat.le_refl _) ⟨?_, out, e', vals_back refs, he'⟩, rfl, q _ _ hf (e0.same (Same.new hf))⟩
    · have hb : b < h'.objs.size := Heap.lt_size e
      rw [sortedHeap_old (Nat.ne_of_lt hb) (by rw [size_push']; exact Nat.lt_succ_of_lt hb)]
      exact Heap.get?_push_of_some _ e
    · rw [List.length_map, stb.perm.length_eq]
      exact len_is
/-! ### d.pop(k), k a tuple that is there -/
def rPop1T : V → List V → Hp → VK → Prop := fun x xs H Q => ∃ (a : Addr) (kvs : List (List Key × V)) (k : List Key) (b : Addr) (v : V), x = .ref a ∧ xs = [.ref b] ∧ H a = some (.dT kvs) ∧ H b = some (.tup (k.map kV)) ∧ valV kvs k = some v ∧
  Q v (upd H a (.dT (dropK kvs k)))
theorem kPop1T {X : Cx} (hu : X.A.units + 1 < cLine) : MtR X "dict.pop" rPop1T := by
  intro pins s σ H x xs v us Q I rx rxs h
  obtain ⟨a, kvs, k, b, v0, rfl, rfl, ha, hb, ev, q⟩ := h
  cases rx
  obtain ⟨u1, rfl, r1⟩ := vals1 rxs
  cases r1
  obtain ⟨z, hd, xs', rel, dd⟩ := dt_of I.hok ha
  have r := rel.val k
  rw [ev] at r
  obtain ⟨p, hp, rv⟩ : ∃ p, atKey xs' k = some p ∧ RelV v0 p.2 := by
    cases e : atKey xs' k with
    | none => rw [e] at r; exact (show False from r).elim
    | some p => rw [e] at r; exact ⟨p, rfl, r⟩
  refine call_pop_heap (more := []) (.inl rfl) (PySem.F.args_dict_pop_2 _ _) (tupleKind_room_in1 hu) (key_of I.hok hb) hd dd hp (fun h' dd' hs => ?_) (by rw [← Paired.length rel]; exact z)
  obtain ⟨o, es, ep, hq, h2, h3, h4, _, h5⟩ := dd'
  have I2 : L2.Inv X pins σ (upd H a (.dT (dropK kvs k))) { s with heap := h', toks := s.toks + (tupleKind (mixKind X.prog X.w)).draws k } :=
    d_write I (by rw [ha]; exact True.intro) hs ⟨o, hq⟩ ⟨Nat.le_trans (dropK_le kvs k) z, hd, _, (DX.KT_drop k rel).keeps (fun c ys ec => by rw [upd_ne (ne_of ec ha (fun z => nomatch z))]; exact ec), o, es, ep, hq, h2, h3, h4, h5⟩
  exact ⟨v0, _, I2, rv, q⟩
end J

/-! Joinside, what the laws' own small defs promise: mixed numbers, orders, kinds of refusals. -/
namespace J
open PySem PySem.Spec L2
/-! ### mixed numbers -/
def mixA (c k : Int) : Int := (c % 1000000007 + 7919 * k * k + 31 * k + 17) * 48271 % 2147483647
def mixI (c k : Int) : Int := mixA c k * (mixA c k % 65521 + 16807) % 2147483629 / 4
def mixN (c k : Int) : Nat := (mixI c k).toNat
theorem mixA_bd (c k : Int) : 0 ≤ mixA c k ∧ mixA c k < 2147483647 := ⟨Int.emod_nonneg _ (by decide), Int.emod_lt_of_pos _ (by decide)⟩
theorem mixI_nn (c k : Int) : 0 ≤ mixI c k := Int.ediv_nonneg (Int.emod_nonneg _ (by decide)) (by decide)
theorem mixN_eq (c k : Int) : ((mixN c k : Nat) : Int) = mixI c k := Int.toNat_of_nonneg (mixI_nn c k)
theorem mixN_lt (c k : Int) : mixN c k < 536870908 := by
  have a := mixN_eq c k
  have b : mixA c k * (mixA c k % 65521 + 16807) % 2147483629 < 2147483629 := Int.emod_lt_of_pos _ (by decide)
  have d : mixI c k < 536870908 := by unfold mixI; omega
  omega
/-- the law itself: a list of at most 63 numbers; it answers True -/
def sp_law (K : PySem.W.Frag) : Sp := fun vs H Q _ => ∃ (a : Addr) (ns : List Int), vs = [.ref a] ∧ SqL K H a (ns.map V.int) ∧ ns.length ≤ 63 ∧ ∀ H', Q (.bl true) H'
def sp__law_mixed : Sp := fun vs H Q _ => ∃ (c k : Int), vs = [.int c, .int k] ∧ -1000000 ≤ k ∧ k ≤ 1000000 ∧ Q (.int (mixN c k)) H
/-- the script's number for a place -/
def numC (ns : List Int) (k : Nat) : Int := if ns = [] then 0 else ns.getD (k % ns.length) 0
def numN (ns : List Int) (k : Nat) : Nat := mixN (numC ns k) k
theorem numN_lt (ns : List Int) (k : Nat) : numN ns k < 536870908 := mixN_lt _ _
def sp__law_number (K : PySem.W.Frag) : Sp := fun vs H Q _ => ∃ (a : Addr) (ns : List Int) (k : Nat), vs = [.ref a, .int k] ∧ SqL K H a (ns.map V.int) ∧ k ≤ 1000000 ∧ Q (.int (numN ns k)) H
/-! ### a drawn order: the state behind i turns -/
structure OrdS where
  left : List Nat
  found : List Nat
  num : Nat
def ordS (n num : Nat) : Nat → OrdS
  | 0 => ⟨List.range n, [], num⟩
  | i + 1 => let s := ordS n num i
             ⟨s.left.eraseIdx (s.num % s.left.length), s.found ++ [s.left.getD (s.num % s.left.length) 0], mixN s.num i⟩
def ordN (n num : Nat) : List Nat := (ordS n num n).found
theorem ordS_left (n num : Nat) : ∀ i, i ≤ n → (ordS n num i).left.length = n - i
  | 0, _ => by simp [ordS]
  | i + 1, h => by
    have ih := ordS_left n num i (by omega)
    have hl : (ordS n num i).num % (ordS n num i).left.length < (ordS n num i).left.length := Nat.mod_lt _ (by omega)
    simp only [ordS]
    rw [List.length_eraseIdx_of_lt hl]
    omega
theorem ordS_found (n num : Nat) : ∀ i, (ordS n num i).found.length = i
  | 0 => rfl
  | i + 1 => by simp [ordS, ordS_found n num i]
theorem perm_erase {l : List Nat} {j : Nat} (h : j < l.length) : (l.getD j 0 :: l.eraseIdx j).Perm l := by
  induction l generalizing j with
  | nil => cases h
  | cons x r ih =>
    cases j with
    | zero => exact List.Perm.refl _
    | succ j =>
      have q := ih (j := j) (by simpa using h)
      simp only [List.getD_cons_succ, List.eraseIdx_cons_succ]
      exact (List.Perm.swap x _ _).trans (q.cons x)
theorem ordS_perm (n num : Nat) : ∀ i, i ≤ n → ((ordS n num i).found ++ (ordS n num i).left).Perm (List.range n)
  | 0, _ => by simp [ordS]
  | i + 1, h => by
    have ih := ordS_perm n num i (by omega)
    have hl : (ordS n num i).num % (ordS n num i).left.length < (ordS n num i).left.length := Nat.mod_lt _ (by rw [ordS_left n num i (by omega)]; omega)
    simp only [ordS, List.append_assoc, List.singleton_append]
    exact ((perm_erase hl).append_left _).trans ih
theorem ordN_perm (n num : Nat) : (ordN n num).Perm (List.range n) := by
  have h := ordS_perm n num n (Nat.le_refl _)
  have e : (ordS n num n).left = [] := List.eq_nil_of_length_eq_zero (by rw [ordS_left n num n (Nat.le_refl _)]; omega)
  rw [e, List.append_nil] at h
  exact h
theorem ordN_length (n num : Nat) : (ordN n num).length = n := by rw [(ordN_perm n num).length_eq, List.length_range]
theorem ordN_nodup (n num : Nat) : (ordN n num).Nodup := (ordN_perm n num).nodup_iff.mpr List.nodup_range
theorem ordN_lt {n num x : Nat} (h : x ∈ ordN n num) : x < n := List.mem_range.mp ((ordN_perm n num).mem_iff.mp h)
def sp__law_order : Sp := fun vs H Q _ => ∃ (n num : Nat), vs = [.int n, .int num] ∧ n ≤ 30 ∧ ∀ p H', Same H H' → H p = none → H' p = some (.lst (msk (ordN n num))) → Q (.ref p) H'
/-! ### kinds of refusals -/
def kwS (b : Bool) (s : Str) : List Str := if b = true then [s] else []
def kindS (b1 b2 b3 b4 b5 b6 b7 b8 bv : Bool) : List Str := kwS b1 "size" ++ kwS b2 "point" ++ (kwS b3 "twice") ++ kwS b4 "no tie" ++ (kwS b5 "many") ++ kwS b6 "row" ++ (kwS b7 "tree") ++ kwS b8 "text" ++ kwS (!bv) "base"
def kindT (b1 b2 b3 b4 b5 b6 b7 b8 bv : Bool) : Str := Txt.join "/" (kindS b1 b2 b3 b4 b5 b6 b7 b8 bv)
/-- an exception at a, of a class for which isinstance answers by bs -/
structure ExcAt (K : PySem.W.Frag) (H : Hp) (a : Addr) (cs : List Addr) (bs : List Bool) : Prop where
  ex : ∃ D, H a = some (ExR (.ref D) none a) ∧ ExcC K D ∧ (∀ (i : Nat) (c : Addr) (b : Bool), cs[i]? = some c → bs[i]? = some b → PySem.W.kitOne K (.ref D) (.ref c) = some b) ∧ PySem.W.kitOne K (.ref D) (.type "ValueError") = some true
theorem ExcAt.same {K : PySem.W.Frag} {H H' : Hp} {a : Addr} {cs : List Addr} {bs : List Bool} (s : Same H H') (h : ExcAt K H a cs bs) : ExcAt K H' a cs bs := by
  obtain ⟨D, e, r⟩ := h.ex
  exact ⟨D, s _ _ e, r⟩
def sp__law_kind (K : PySem.W.Frag) (cs : List Addr) : Sp := fun vs H Q _ => ∃ (a : Addr) (b1 b2 b3 b4 b5 b6 b7 b8 : Bool), vs = [.ref a] ∧ ExcAt K H a cs [b1, b2, b3, b4, b5, b6, b7, b8] ∧ ∀ H', Same H H' → Q (.str (kindT b1 b2 b3 b4 b5 b6 b7 b8 true)) H'
def KitL (K : PySem.W.Frag) (D : Addr) : List Addr → List Bool → Prop
  | [], [] => True
  | c :: cs, b :: bs => PySem.W.kitOne K (.ref D) (.ref c) = some b ∧ KitL K D cs bs
  | _, _ => False
theorem KitL.at {K : PySem.W.Frag} {D : Addr} : ∀ {cs : List Addr} {bs : List Bool}, KitL K D cs bs → ∀ (i : Nat) (c : Addr) (b : Bool), cs[i]? = some c → bs[i]? = some b → PySem.W.kitOne K (.ref D) (.ref c) = some b
  | c :: cs, b :: bs, ⟨h, _⟩, 0, c', b', h1, h2 => by
    simp only [List.getElem?_cons_zero, Option.some.injEq] at h1 h2
    subst h1 h2
    exact h
  | _ :: _, _ :: _, ⟨_, h⟩, i + 1, c', b', h1, h2 => h.at i c' b' (by simpa using h1) (by simpa using h2)
theorem ExcAt.of {K : PySem.W.Frag} {H : Hp} {a D : Addr} {cs : List Addr} {bs : List Bool} (e : H a = some (ExR (.ref D) none a)) (x : ExcC K D) (k : KitL K D cs bs) (v : PySem.W.kitOne K (.ref D) (.type "ValueError") = some true) : ExcAt K H a cs bs := ⟨D, e, x, k.at, v⟩
theorem kw_rep (k : Bool) (s : Str) : (List.replicate (Int.toNat (if k then 1 else 0)) [V.str s]).flatten = (kwS k s).map V.str := by cases k <;> rfl
theorem kw_len (k : Bool) (s : Str) : (kwS k s).length ≤ 1 := by cases k <;> simp [kwS]
theorem kw_list {H : Hp} {Q : VK} {p : Addr} {b : Bool} {s : Str} (hp : H p = some (.lst [V.str s])) {K : PySem.W.Frag} (q : ∀ p, H p = none → Q (.ref p) (upd H p (.lst ((kwS b s).map V.str)))) : rMulA K (.ref p) (.int (if b then 1 else 0)) H Q :=
  s_mulL hp (by cases b <;> decide) (by cases b <;> decide) (by cases b <;> exact Nat.le_trans (m := 1) (by simp) (by decide)) (by rw [kw_rep]; exact q)
theorem kw_word {K : PySem.W.Frag} {σ : Sl} {H : Hp} {Q : VK} {a C D : Addr} {b : Bool} {s : Str} {i : Nat} (hv : σ[i]? = some (some (.ref a))) (eD : H a = some (ExR (.ref D) none a)) (xD : ExcC K D) (k : PySem.W.kitOne K (.ref D) (.ref C) = some b)
    (q : ∀ p H', Same H H' → H p = none → H' p = some (.lst ((kwS b s).map V.str)) → Q (.ref p) H') :
    tOp (rMulA K) (tLst (tCons (tC (.str s)) tNil)) (tCB rInt1 (tCons (tCB (rIs K) (tCons (tVar i) (tCons (tC (.ref C)) tNil))) tNil)) σ H Q := by
  refine ⟨by show 1 ≤ sizeLine; decide, fun p hp => ?_⟩
  refine ⟨.ref a, hv, ?_⟩
  refine s_isExc (up_old hp eD) xD (.own C) k ?_
  refine s_nil ?_
  refine s_intB ?_
  refine kw_list upd_same fun p2 hp2 => ?_
  exact q p2 _ ((Same.new hp).trans (Same.new hp2)) (free_of hp2) upd_same
theorem kw_plus {K : PySem.W.Frag} {H : Hp} {Q : VK} {p q : Addr} {xs ys : List Str} (hp : H p = some (.lst (xs.map V.str))) (hq : H q = some (.lst (ys.map V.str))) (h1 : xs.length ≤ 100) (h2 : ys.length ≤ 100)
    (k : ∀ r, H r = none → Q (.ref r) (upd H r (.lst ((xs ++ ys).map V.str)))) : rAddA K (.ref p) (.ref q) H Q :=
  s_addL hp hq (by rw [List.length_map, List.length_map]; exact Nat.le_trans (m := 200) (by omega) (by decide)) (by rw [← List.map_append]; exact k)
/-- an expression that gives a list of texts -/
def TxtL (te : TE) (σ : Sl) (H : Hp) (xs : List Str) : Prop := ∀ Q : VK, (∀ p H', Same H H' → H' p = some (.lst (xs.map V.str)) → Q (.ref p) H') → te σ H Q
theorem kw_acc {K : PySem.W.Frag} {σ : Sl} {H : Hp} {a C D : Addr} {b : Bool} {s : Str} {i : Nat} {te : TE} {xs : List Str} (he : TxtL te σ H xs) (hl : xs.length ≤ 20) (hv : σ[i]? = some (some (.ref a))) (eD : H a = some (ExR (.ref D) none a)) (xD : ExcC K D) (k : PySem.W.kitOne K (.ref D) (.ref C) = some b) :
    TxtL (tOp (rAddA K) te (tOp (rMulA K) (tLst (tCons (tC (.str s)) tNil)) (tCB rInt1 (tCons (tCB (rIs K) (tCons (tVar i) (tCons (tC (.ref C)) tNil))) tNil)))) σ H (xs ++ kwS b s) := by
  intro Q q
  refine he _ fun p1 H1 S1 e1 => ?_
  refine kw_word hv (S1 _ _ eD) xD k fun p2 H2 S2 f2 e2 => ?_
  refine kw_plus (S2 _ _ e1) e2 (by omega) (Nat.le_trans (kw_len _ _) (by decide)) fun r hr => ?_
  exact q r _ ((S1.trans S2).trans (Same.new hr)) upd_same
theorem kw_one {K : PySem.W.Frag} {σ : Sl} {H : Hp} {a C D : Addr} {b : Bool} {s : Str} {i : Nat} (hv : σ[i]? = some (some (.ref a))) (eD : H a = some (ExR (.ref D) none a)) (xD : ExcC K D) (k : PySem.W.kitOne K (.ref D) (.ref C) = some b) :
    TxtL (tOp (rMulA K) (tLst (tCons (tC (.str s)) tNil)) (tCB rInt1 (tCons (tCB (rIs K) (tCons (tVar i) (tCons (tC (.ref C)) tNil))) tNil))) σ H (kwS b s) := by
  intro Q q
  exact kw_word hv eD xD k fun p H1 S1 _ e1 => q p H1 S1 e1
theorem kw_var {σ : Sl} {H : Hp} {p : Addr} {j : Nat} {xs : List Str} (hv : σ[j]? = some (some (.ref p))) (e : H p = some (.lst (xs.map V.str))) : TxtL (tVar j) σ H xs := fun Q q => ⟨.ref p, hv, q p H (Same.refl H) e⟩
theorem kw_lenA (xs : List Str) (b : Bool) (s : Str) {n : Nat} (h : xs.length ≤ n) : (xs ++ kwS b s).length ≤ n + 1 := by
  have := kw_len b s
  rw [List.length_append]
  omega
theorem kw_sumA (xs : List Str) (b : Bool) (s : Str) {n : Nat} (h : (xs.map (·.length)).sum ≤ n) (hs : s.length ≤ 10) : ((xs ++ kwS b s).map (·.length)).sum ≤ n + 10 := by
  have : ((kwS b s).map (·.length)).sum ≤ s.length := by cases b <;> simp [kwS]
  rw [List.map_append, List.sum_append]
  omega
theorem kw_sum (b : Bool) (s : Str) : ((kwS b s).map (·.length)).sum ≤ s.length := by cases b <;> simp [kwS]
theorem kw_base {K : PySem.W.Frag} {σ : Sl} {H : Hp} {a D : Addr} {b : Bool} {s : Str} {i : Nat} {te : TE} {xs : List Str} (he : TxtL te σ H xs) (hl : xs.length ≤ 20) (hv : σ[i]? = some (some (.ref a))) (eD : H a = some (ExR (.ref D) none a)) (xD : ExcC K D) (k : PySem.W.kitOne K (.ref D) (.type "ValueError") = some b) :
    TxtL (tOp (rAddA K) te (tOp (rMulA K) (tLst (tCons (tC (.str s)) tNil)) (tCB rInt1 (tCons (tNotV (tCB (rIs K) (tCons (tVar i) (tCons (tC (.ty "ValueError")) tNil)))) tNil)))) σ H (xs ++ kwS (!b) s) := by
  intro Q q
  refine he _ fun p1 H1 S1 e1 => ?_
  refine ⟨by show 1 ≤ sizeLine; decide, fun p hp => ?_⟩
  refine ⟨.ref a, hv, ?_⟩
  refine s_isExc (K := K) (up_old hp (S1 _ _ eD)) xD (.ty _) k ?_
  refine s_blV ?_
  refine s_nil ?_
  refine s_intB ?_
  refine kw_list (b := !b) upd_same fun p2 hp2 => ?_
  refine kw_plus (up_old hp2 (up_old hp e1)) upd_same (by omega) (Nat.le_trans (kw_len _ _) (by decide)) fun r hr => ?_
  exact q r _ (((S1.trans (Same.new hp)).trans (Same.new hp2)).trans (Same.new hr)) upd_same
theorem kw_fin {K : PySem.W.Frag} {σ : Sl} {H : Hp} {te : TE} {xs : List Str} {Q : VK} (he : TxtL te σ H xs) (hl : xs.length ≤ 100) (hz : (xs.map (·.length)).sum ≤ 1000) (q : ∀ H', Same H H' → Q (.str (Txt.join "/" xs)) H') : tM1 (rJoin K) (tC (.str "/")) te σ H Q := by
  refine ⟨⟨_, rfl⟩, he _ fun p H1 S1 e1 => ?_⟩
  refine s_join (.inl (SqL.of e1)) ?_ (q _ S1)
  have : ("/" : Str).length = 1 := rfl
  rw [this]
  refine Nat.le_trans (m := 1100) (by omega) (by decide)
theorem kind_size (b1 b2 b3 b4 b5 b6 b7 b8 bv : Bool) : (kindS b1 b2 b3 b4 b5 b6 b7 b8 bv).length ≤ 9 ∧ ((kindS b1 b2 b3 b4 b5 b6 b7 b8 bv).map (·.length)).sum ≤ 90 := by
  unfold kindS
  constructor
  · exact kw_lenA _ _ _ (kw_lenA _ _ _ (kw_lenA _ _ _ (kw_lenA _ _ _ (kw_lenA _ _ _ (kw_lenA _ _ _ (kw_lenA _ _ _ (kw_lenA _ _ _ (kw_len _ _))))))))
  · exact kw_sumA _ _ _ (kw_sumA _ _ _ (kw_sumA _ _ _ (kw_sumA _ _ _ (kw_sumA _ _ _ (kw_sumA _ _ _ (kw_sumA _ _ _ (kw_sumA _ _ _ (Nat.le_trans (kw_sum _ _) (by decide)) (by decide)) (by decide)) (by decide)) (by decide)) (by decide)) (by decide)) (by decide)) (by decide)
/-! ### what a try keeps -/
theorem s_tryK {K : PySem.W.Frag} {c : Value} {i j : Nat} {Wout : WX} {tb : WX → TS} {D : Ends} {σ : Sl} {H : Hp} (q : tb (wKeep K c i j Wout D) D σ H) : tTryK K c i j Wout tb D σ H := q
theorem s_keep {K : PySem.W.Frag} {c cls : Value} {d : Option Addr} {i j : Nat} {Wout : WX} {D : Ends} {σ : Sl} {H : Hp} (h : PySem.W.exmOne K cls c = some true) (q : ∀ a, H a = none → D.nx ((σ.set j (some (.ref a))).set i none) (upd H a (ExR cls d a))) : wKeep K c i j Wout D cls d σ H :=
  ⟨true, h, fun _ => q, fun z => by cases z⟩
/-! ### ties of the laws -/
def sp__law_is (K : PySem.W.Frag) (C : Addr) : Sp := fun vs H Q _ => ∃ (p l : Addr) (n : Nat) (R : Rel) (a : Addr) (xs : List V) (L : List (Nat × Nat)), vs = [.ref p, .int n, .ref a] ∧ WebAt C H p l (webM n R) ∧ SqL K H a xs ∧ PairsAt H xs L ∧ Tell L n R ∧ ∀ H', Same H H' → Q (.bl true) H'
def sp__law_part (K : PySem.W.Frag) : Sp := fun vs H Q _ => ∃ (a b : Addr) (xs : List V) (L : List (Nat × Nat)) (n : Nat) (R : Rel) (is : List Nat), vs = [.ref a, .ref b] ∧ SqL K H a xs ∧ PairsAt H xs L ∧ Tell L n R ∧ Sym R ∧ n ≤ 30 ∧ SqL K H b (msk is) ∧ (∀ i ∈ is, i < n) ∧ is.Nodup ∧
  ∀ q ys H', Same H H' → H q = none → H' q = some (.lst ys) → PairsAt H' ys (tiesR is.length (partR R is)) → Q (.ref q) H'
def sp__law_others (K : PySem.W.Frag) : Sp := fun vs H Q _ => ∃ (a : Addr) (xs : List V) (L : List (Nat × Nat)) (n : Nat) (R : Rel), vs = [.ref a, .int n] ∧ SqL K H a xs ∧ PairsAt H xs L ∧ Tell L n R ∧ Sym R ∧ n ≤ 30 ∧
  ∀ q ys H', Same H H' → H q = none → H' q = some (.lst ys) → PairsAt H' ys (tiesR n (oppR R)) → Q (.ref q) H'
def sp__law_web (K : PySem.W.Frag) (C : Addr) : Sp := fun vs H Q _ => ∃ (a : Addr) (ns : List Int) (n : Nat), vs = [.ref a, .int n] ∧ SqL K H a (ns.map V.int) ∧ ns.length ≤ 63 ∧ 1 ≤ n ∧ n ≤ 30 ∧
  ∀ (t p l la : Addr) (R : Rel) (xs : List V) (L : List (Nat × Nat)) (H' : Hp), Same H H' → H p = none → H l = none → H la = none → H' t = some (.tup [.ref p, .ref la]) → la ≠ l → WebAt C H' p l (webM n R) → Sym R → H' la = some (.lst xs) → PairsAt H' xs L → Tell L n R → Q (.ref t) H'
/-- a thing that is no list of unlike points -/
def BadAt (K : PySem.W.Frag) (H : Hp) (n : Nat) (x : V) : Prop := (∃ nm, Th K H x nm ∧ nm ≠ "list") ∨ ∃ a xs, x = .ref a ∧ H a = some (.lst xs) ∧ xs.length ≤ 1000 ∧ (∀ v ∈ xs, ∃ m, Th K H v m) ∧ ¬ PtsOk n 1 xs
theorem bad_mem {n : Nat} {least : Int} {xs : List V} {v : V} (h : v ∈ xs) (nv : ∀ j : Nat, v = .int j → ¬ j < n) : ¬ PtsOk n least xs := by
  rintro ⟨js, rfl, lt, _, _⟩
  obtain ⟨j, hj, rfl⟩ := List.mem_map.mp h
  exact nv j rfl (lt j hj)
theorem bad_twice {n : Nat} {least : Int} {is : List Nat} {i : Nat} (h : i ∈ is) : ¬ PtsOk n least (msk is ++ [.int i]) := by
  rintro ⟨js, e, _, nd, _⟩
  rw [msk_app] at e
  have := msk_inj e
  subst this
  rw [List.nodup_append] at nd
  exact nd.2.2 i h i (by simp) rfl
theorem th_msk {K : PySem.W.Frag} {H : Hp} {is : List Nat} : ∀ v ∈ msk is, ∃ m, Th K H v m := by
  intro v hv
  obtain ⟨j, _, rfl⟩ := List.mem_map.mp hv
  exact ⟨_, .int _⟩
theorem BadAt.lst {K : PySem.W.Frag} {H : Hp} {n : Nat} {a : Addr} {xs : List V} (e : H a = some (.lst xs)) (hz : xs.length ≤ 1000) (ht : ∀ v ∈ xs, ∃ m, Th K H v m) (no : ¬ PtsOk n 1 xs) : BadAt K H n (.ref a) := .inr ⟨a, xs, rfl, e, hz, ht, no⟩
def sp__law_spoilt (K : PySem.W.Frag) : Sp := fun vs H Q _ => ∃ (a : Addr) (is : List Nat) (c n : Nat), vs = [.ref a, .int c, .int n] ∧ H a = some (.lst (msk is)) ∧ 1 ≤ is.length ∧ is.length ≤ 30 ∧ c ≤ 1000000000 ∧ n ≤ 30 ∧ (∀ i ∈ is, i < n) ∧ is.Nodup ∧
  ∀ x H', Same H H' → BadAt K H' n x → Q x H'
def sp__law_refused (K : PySem.W.Frag) (C : Addr) : Sp := fun vs H Q _ => ∃ (p l : Addr) (n : Nat) (R : Rel) (x : V), vs = [.ref p, x] ∧ WebAt C H p l (webM n R) ∧ n ≤ 30 ∧ Sym R ∧ BadAt K H n x ∧ ∀ H', Same H H' → Q (.bl true) H'
section
variable {K : PySem.W.Frag} {H : Hp} {Q : VK} {E : XK} {a b p l C : Addr} {n : Nat} {R : Rel} {xs ys : List V} {L : List (Nat × Nat)} {is : List Nat}
theorem u__law_kind {cs : List Addr} {b1 b2 b3 b4 b5 b6 b7 b8 : Bool} (h : ExcAt K H a cs [b1, b2, b3, b4, b5, b6, b7, b8]) (q : ∀ H', Same H H' → Q (.str (kindT b1 b2 b3 b4 b5 b6 b7 b8 true)) H') : sp__law_kind K cs [.ref a] H Q E := ⟨a, b1, b2, b3, b4, b5, b6, b7, b8, rfl, h, q⟩
theorem u__law_is (hW : WebAt C H p l (webM n R)) (h : SqL K H a xs) (hp : PairsAt H xs L) (t : Tell L n R) (q : ∀ H', Same H H' → Q (.bl true) H') : sp__law_is K C [.ref p, .int n, .ref a] H Q E := ⟨p, l, n, R, a, xs, L, rfl, hW, h, hp, t, q⟩
theorem u__law_part (h : SqL K H a xs) (hp : PairsAt H xs L) (t : Tell L n R) (S : Sym R) (hn : n ≤ 30) (hb : SqL K H b (msk is)) (lt : ∀ i ∈ is, i < n) (nd : is.Nodup)
    (q : ∀ q ys H', Same H H' → H q = none → H' q = some (.lst ys) → PairsAt H' ys (tiesR is.length (partR R is)) → Q (.ref q) H') : sp__law_part K [.ref a, .ref b] H Q E := ⟨a, b, xs, L, n, R, is, rfl, h, hp, t, S, hn, hb, lt, nd, q⟩
theorem u__law_others (h : SqL K H a xs) (hp : PairsAt H xs L) (t : Tell L n R) (S : Sym R) (hn : n ≤ 30)
    (q : ∀ q ys H', Same H H' → H q = none → H' q = some (.lst ys) → PairsAt H' ys (tiesR n (oppR R)) → Q (.ref q) H') : sp__law_others K [.ref a, .int n] H Q E := ⟨a, xs, L, n, R, rfl, h, hp, t, S, hn, q⟩
end
section
variable {K : PySem.W.Frag} {H : Hp} {Q : VK} {E : XK} {a : Addr}
theorem u__law_mixed {c k : Int} (h1 : -1000000 ≤ k) (h2 : k ≤ 1000000) (q : Q (.int (mixN c k)) H) : sp__law_mixed [.int c, .int k] H Q E := ⟨c, k, rfl, h1, h2, q⟩
theorem u__law_number {ns : List Int} {k : Nat} (h : SqL K H a (ns.map V.int)) (hk : k ≤ 1000000) (q : Q (.int (numN ns k)) H) : sp__law_number K [.ref a, .int k] H Q E := ⟨a, ns, k, rfl, h, hk, q⟩
theorem u__law_order {n num : Nat} (h : n ≤ 30) (q : ∀ p H', Same H H' → H p = none → H' p = some (.lst (msk (ordN n num))) → Q (.ref p) H') : sp__law_order [.int n, .int num] H Q E := ⟨n, num, rfl, h, q⟩
end
/-! ### the law's calls -/
theorem msk_take {is : List Nat} {j : Nat} : (msk is).take j = msk (is.take j) := by unfold msk; rw [List.map_take]
theorem WebAt.off {C p l q : Addr} {H : Hp} {ms : List Nat} {o : HO} (h : WebAt C H p l ms) (hp : p ≠ q) (hl : l ≠ q) : WebAt C (upd H q o) p l ms := by
  obtain ⟨dx, e⟩ := h.ob
  exact ⟨⟨dx, up_ne hp e⟩, up_ne hl h.li, h.sz⟩
def intD (is : List Nat) : PyData := .list (is.map fun (m : Nat) => .int (m : Int))
theorem intD_lay : ∀ is : List Nat, PyData.canLayAll0 (is.map fun (m : Nat) => PyData.int (m : Int)) = true ∧ PyData.depthAll (is.map fun (m : Nat) => PyData.int (m : Int)) ≤ 0
  | [] => ⟨rfl, by decide⟩
  | i :: is => by
    obtain ⟨h1, h2⟩ := intD_lay is
    constructor
    · rw [List.map_cons]; simp only [PyData.canLayAll0, PyData.canLay0, h1, Bool.and_self]
    · rw [List.map_cons]; simp only [PyData.depthAll, PyData.depth]; omega
theorem shaped_ints (is : List Nat) : SeqAt.shaped (intD is) = true := by
  obtain ⟨h1, h2⟩ := intD_lay is
  unfold SeqAt.shaped
  rw [Bool.and_eq_true]
  refine ⟨h1, decide_eq_true ?_⟩
  simp only [intD, PyData.depth]
  omega
theorem dp_ints {K : PySem.W.Frag} {H : Hp} : ∀ is : List Nat, DpAll K H (msk is) (is.map fun (m : Nat) => PyData.int (m : Int))
  | [] => .nil
  | _ :: is => .cons (.int _) (dp_ints is)
def growR (n : Nat) (R : Rel) : Rel := fun a b => decide (a < n) && decide (b < n) && R a b
theorem Sym.grow {R : Rel} {n : Nat} (S : Sym R) : Sym (growR n R) := ⟨fun a b => by unfold growR; rw [S.sy a b]; congr 1; exact Bool.and_comm _ _, fun a => by unfold growR; rw [S.ir]; simp⟩
section
variable {K : PySem.W.Frag} {H : Hp} {Q : VK} {E : XK} {C p l a b eP eM : Addr} {n : Nat} {R : Rel} {is : List Nat} {xs : List V} {x : V}
theorem s_slTo {j : Nat} (h : SqL K H a (msk is)) (hj : j ≤ is.length) (q : ∀ p H', H p = none → Same H H' → H' p = some (.lst (msk (is.take j))) → Q (.ref p) H') : rSl K (.ref a) none (some (j : Int)) H Q :=
  s_slL h fun p hp => by rw [cut_to (by rw [msk_length]; exact hj), msk_take]; exact q p _ hp (Same.new hp) upd_same
theorem s_listOn (h : SqL K H a xs ∨ SqT K H a xs) (q : ∀ p H', H p = none → Same H H' → H' p = some (.lst xs) → Q (.ref p) H') : rListOf K [.ref a] H Q := s_listO h fun p hp => q p _ hp (Same.new hp) upd_same
theorem s_clearL (h : H a = some (.lst xs)) (q : Q .non (upd H a (.lst []))) : rClear (.ref a) [] H Q := ⟨a, xs, rfl, rfl, h, q⟩
theorem s_neMsk (h : SqL K H a (msk is)) (h' : SqL K H b (msk is)) (q : Q (.bl false) H) : rNeA K (.ref a) (.ref b) H Q :=
  s_neD (.lst h (dp_ints is)) (.lst h' (dp_ints is)) (shaped_ints is) (shaped_ints is) (by rw [show PyData.eqv (.list _) (.list _) = true from SeqAt.eqv_refl (intD is) (SeqAt.canLay_of_shaped (shaped_ints is))]; exact q)
theorem u_partOk (hW : WebAt C H p l (webM n R)) (hn : n ≤ 30) (hR : Sym R) (e : H a = some (.lst (msk is))) (lt : ∀ i ∈ is, i < n) (nd : is.Nodup) (h1 : 1 ≤ is.length)
    (q : ∀ p2 l2 H', Same H H' → H p2 = none → H l2 = none → WebAt C H' p2 l2 (webM is.length (partR R is)) → Q (.ref p2) H') : sp_part K C eP [.ref p, .ref a] H Q E := by
  have l30 := Nat.le_trans (pts_le nd lt) hn
  refine ⟨p, l, n, R, _, rfl, hW, hn, hR, .inr ⟨a, _, rfl, e, by rw [msk_length]; omega, th_msk, fun js ej _ _ _ _ => ?_, fun no => absurd ⟨is, rfl, lt, nd, by omega⟩ no⟩⟩
  have := msk_inj ej
  subst this
  exact q
theorem u_opposite (hW : WebAt C H p l (webM n R)) (h1 : 1 ≤ n) (hn : n ≤ 30) (hR : Sym R) (q : ∀ p2 l2 H', Same H H' → H p2 = none → H l2 = none → WebAt C H' p2 l2 (webM n (oppR R)) → Q (.ref p2) H') : sp_opposite C [.ref p] H Q E := ⟨p, l, n, R, rfl, hW, h1, hn, hR, q⟩
theorem u_growR (hW : WebAt C H p l (webM n R)) (hn : n < 30) (q : WebAt C (upd H l (.lst (msk (webM (n + 1) (growR n R))))) p l (webM (n + 1) (growR n R)) → Q (.int n) (upd H l (.lst (msk (webM (n + 1) (growR n R)))))) : sp_Web_grow C eM [.ref p] H Q E := by
  refine ⟨p, l, _, rfl, hW, fun _ => ?_, fun h => by rw [webM_len] at h; omega⟩
  rw [webM_len, webM_grow]
  exact q (hW.put (by rw [webM_len]; omega))
theorem u__law_spoilt {c : Nat} (e : H a = some (.lst (msk is))) (h1 : 1 ≤ is.length) (hl : is.length ≤ 30) (hc : c ≤ 1000000000) (hn : n ≤ 30) (lt : ∀ i ∈ is, i < n) (nd : is.Nodup) (q : ∀ x H', Same H H' → BadAt K H' n x → Q x H') : sp__law_spoilt K [.ref a, .int c, .int n] H Q E :=
  ⟨a, is, c, n, rfl, e, h1, hl, hc, hn, lt, nd, q⟩
theorem u__law_refused (hW : WebAt C H p l (webM n R)) (hn : n ≤ 30) (hR : Sym R) (hB : BadAt K H n x) (q : ∀ H', Same H H' → Q (.bl true) H') : sp__law_refused K C [.ref p, x] H Q E := ⟨p, l, n, R, x, rfl, hW, hn, hR, hB, q⟩
end
end J

/-! Joinside, law k01: the law's own account of a web, what a deed brings. -/
namespace J
open PySem PySem.Spec L2
def tieKV (L : List (Nat × Nat)) : List (List Key × V) := L.map fun q => (tieK q, V.bl true)
theorem tieK_inj {p q : Nat × Nat} (h : tieK p = tieK q) : p = q := by
  unfold tieK at h
  injection h with h1 h2
  injection h2 with h2 _
  injection h1 with h1
  injection h2 with h2
  exact Prod.ext (by omega) (by omega)
theorem tieKV_val (L : List (Nat × Nat)) (q : Nat × Nat) : valV (tieKV L) (tieK q) = if q ∈ L then some (V.bl true) else none := by
  induction L with
  | nil => rfl
  | cons p r ih =>
    by_cases e : p = q
    · subst e
      rw [if_pos List.mem_cons_self]
      exact valV_pos rfl
    · have ne : ¬ tieK p = tieK q := fun z => e (tieK_inj z)
      have e1 : valV (tieKV (p :: r)) (tieK q) = valV (tieKV r) (tieK q) := valV_neg ne
      rw [e1, ih]
      simp [Ne.symm e]
theorem tieKV_put {L : List (Nat × Nat)} {q : Nat × Nat} (h : q ∉ L) : putK (tieKV L) (tieK q) (V.bl true) = tieKV (L ++ [q]) := by
  rw [putK_new _ (by rw [tieKV_val, if_neg h])]
  simp [tieKV]
theorem tieKV_drop (L : List (Nat × Nat)) (q : Nat × Nat) : dropK (tieKV L) (tieK q) = tieKV (L.filter fun p => decide (p ≠ q)) := by
  unfold dropK tieKV
  rw [List.filter_map]
  congr 1
  apply List.filter_congr
  intro p _
  simp only [Function.comp]
  rw [decide_eq_decide]
  exact ⟨fun h e => h (by rw [e]), fun h e => h (tieK_inj e)⟩
theorem tieKV_keys (L : List (Nat × Nat)) : (tieKV L).map (·.1) = L.map tieK := by
  unfold tieKV
  rw [List.map_map]
  rfl
theorem tieKV_len (L : List (Nat × Nat)) : (tieKV L).length = L.length := by simp [tieKV]
def ownK (n : Nat) (td : Addr) : List (Key × V) := [(.inr "many", .int n), (.inr "ties", .ref td)]
theorem ownK_many (n : Nat) (td : Addr) : valV (ownK n td) (.inr "many") = some (.int n) := valV_pos rfl
theorem key_ne : ¬ ((.inr "many" : Key) = (.inr "ties" : Key)) := by decide +kernel
theorem ownK_ties (n : Nat) (td : Addr) : valV (ownK n td) (.inr "ties") = some (.ref td) := by
  have e1 : valV (ownK n td) (.inr "ties") = valV [((.inr "ties" : Key), V.ref td)] (.inr "ties") := valV_neg key_ne
  rw [e1]
  exact valV_pos rfl
theorem ownK_put (n : Nat) (td : Addr) : putK (ownK n td) (.inr "many") (.int ((n : Int) + 1)) = ownK (n + 1) td := by
  have ne : ((.inr "ties" : Key) = .inr "many") = False := by
    apply propext
    exact ⟨fun z => key_ne z.symm, False.elim⟩
  unfold putK ownK
  simp [ne]
structure OwnAt (H : Hp) (ow td : Addr) (n : Nat) (L : List (Nat × Nat)) : Prop where
  ob : H ow = some (.dK (ownK n td))
  ti : H td = some (.dT (tieKV L))
theorem OwnAt.same {H H' : Hp} {ow td : Addr} {n : Nat} {L : List (Nat × Nat)} (s : Same H H') (h : OwnAt H ow td n L) : OwnAt H' ow td n L := ⟨s _ _ h.ob, s _ _ h.ti⟩
theorem OwnAt.off {H : Hp} {ow td q : Addr} {n : Nat} {L : List (Nat × Nat)} {o : HO} (h : OwnAt H ow td n L) (h1 : ow ≠ q) (h2 : td ≠ q) : OwnAt (upd H q o) ow td n L := ⟨up_ne h1 h.ob, up_ne h2 h.ti⟩
theorem OwnAt.ne {H : Hp} {ow td : Addr} {n : Nat} {L : List (Nat × Nat)} (h : OwnAt H ow td n L) : ow ≠ td := ne_of h.ob h.ti (by intro z; cases z)
theorem Tell.filt {L : List (Nat × Nat)} {n a b : Nat} {R : Rel} (h : Tell L n R) (S : Sym R) (ha : a < n) (hb : b < n) (ne : a ≠ b) (yes : R a b = true) : Tell (L.filter fun p => decide (p ≠ (min a b, max a b))) n (togg R a b) := by
  refine ⟨h.nd.sublist List.filter_sublist, fun x y => ?_⟩
  rw [List.mem_filter, h.me, decide_eq_true_eq]
  unfold togg
  have e : (x, y) = (min a b, max a b) ↔ x = min a b ∧ y = max a b := by rw [Prod.mk.injEq]
  rw [Ne, e]
  by_cases q : (x = a ∧ y = b) ∨ (x = b ∧ y = a)
  · rw [if_pos q]
    have r : R x y = true := by rcases q with ⟨rfl, rfl⟩ | ⟨rfl, rfl⟩; exact yes; rw [S.sy]; exact yes
    rw [r]
    constructor
    · rintro ⟨⟨h1, h2, _⟩, h3⟩
      exact absurd (by omega) h3
    · rintro ⟨_, _, h3⟩
      cases h3
  · rw [if_neg q]
    constructor
    · rintro ⟨h1, _⟩
      exact h1
    · intro h1
      exact ⟨h1, fun h3 => q (by omega)⟩
theorem Tell.grow {L : List (Nat × Nat)} {n : Nat} {R : Rel} (h : Tell L n R) : Tell L (n + 1) (growR n R) := ⟨h.nd, fun a b => by
  rw [h.me]
  unfold growR
  simp only [Bool.and_eq_true, decide_eq_true_eq]
  constructor
  · rintro ⟨h1, h2, h3⟩
    exact ⟨h1, by omega, ⟨by omega, h2⟩, h3⟩
  · rintro ⟨h1, _, ⟨_, h2⟩, h3⟩
    exact ⟨h1, h2, h3⟩⟩
/-! ### what a deed brings -/
inductive Out where
  | err (k : Fin 4)
  | ok (v : V) (n : Nat) (R : Rel)
/-- 0: no point, 1: twice, 2: no tie, 3: too many -/
def outc (n : Nat) (R : Rel) (word : Str) (x y : V) : Out :=
  if word = "grow" then (if n = 30 then .err 3 else .ok (.int n) (n + 1) (growR n R))
  else if good n x y = true then
    match x, y with
    | .int a, .int b =>
      if word = "put" then (if R a.toNat b.toNat = true then .err 1 else .ok .non n (togg R a.toNat b.toNat))
      else if word = "take" then (if R a.toNat b.toNat = true then .ok .non n (togg R a.toNat b.toNat) else .err 2)
      else .ok (.bl (R a.toNat b.toNat)) n R
    | _, _ => .err 0
  else .err 0
def outK : Out → Str
  | .err 0 => "point"
  | .err 1 => "twice"
  | .err 2 => "no tie"
  | .err 3 => "many"
  | .ok _ _ _ => ""
theorem good_nat {n : Nat} {x y : V} (h : good n x y = true) : ∃ i j : Nat, x = .int i ∧ y = .int j ∧ i < n ∧ j < n ∧ i ≠ j := by
  unfold good at h
  rw [Bool.and_eq_true, Bool.and_eq_true] at h
  obtain ⟨⟨h1, h2⟩, h3⟩ := h
  obtain ⟨i, rfl, hi⟩ := among_nat h1
  obtain ⟨j, rfl, hj⟩ := among_nat h2
  refine ⟨i, j, rfl, rfl, hi, hj, fun e => ?_⟩
  subst e
  simp at h3
theorem upd_id {H : Hp} {a : Addr} {o : HO} (h : H a = some o) : upd H a o = H := by
  funext b
  by_cases e : b = a
  · subst e; rw [upd_same, h]
  · rw [upd_ne e]
theorem outc_grow {n : Nat} {R : Rel} {x y : V} : outc n R "grow" x y = if n = 30 then .err 3 else .ok (.int n) (n + 1) (growR n R) := by unfold outc; rw [if_pos rfl]
theorem outc_bad {n : Nat} {R : Rel} {w : Str} {x y : V} (h : w ≠ "grow") (b : good n x y = false) : outc n R w x y = .err 0 := by unfold outc; rw [if_neg h, b]; rfl
theorem w_pg : ("put" : Str) ≠ "grow" := by decide +kernel
theorem w_tg : ("take" : Str) ≠ "grow" := by decide +kernel
theorem w_hg : ("has" : Str) ≠ "grow" := by decide +kernel
theorem w_tp : ("take" : Str) ≠ "put" := by decide +kernel
theorem w_hp : ("has" : Str) ≠ "put" := by decide +kernel
theorem w_ht : ("has" : Str) ≠ "take" := by decide +kernel
section
variable {n : Nat} {R : Rel} {i j : Nat}
theorem outc_put (hi : i < n) (hj : j < n) (ne : i ≠ j) : outc n R "put" (.int i) (.int j) = if R i j = true then .err 1 else .ok .non n (togg R i j) := by
  unfold outc
  rw [if_neg w_pg, if_pos (good_of hi hj ne)]
  simp only [Int.toNat_natCast]
  rw [if_pos trivial]
theorem outc_take (hi : i < n) (hj : j < n) (ne : i ≠ j) : outc n R "take" (.int i) (.int j) = if R i j = true then .ok .non n (togg R i j) else .err 2 := by
  unfold outc
  rw [if_neg w_tg, if_pos (good_of hi hj ne)]
  simp only [Int.toNat_natCast]
  rw [if_neg w_tp, if_pos trivial]
theorem outc_has (hi : i < n) (hj : j < n) (ne : i ≠ j) : outc n R "has" (.int i) (.int j) = .ok (.bl (R i j)) n R := by
  unfold outc
  rw [if_neg w_hg, if_pos (good_of hi hj ne)]
  simp only [Int.toNat_natCast]
  rw [if_neg w_hp, if_neg w_ht]
end
def eAt (a b c d : Addr) : Fin 4 → Addr
  | 0 => a
  | 1 => b
  | 2 => c
  | 3 => d
def wholeB : V → Bool
  | .int _ => true
  | _ => false
def wordOk (w : Str) : Prop := w = "put" ∨ w = "take" ∨ w = "has" ∨ w = "grow"
def sp__law_whole (K : PySem.W.Frag) : Sp := fun vs H Q _ => ∃ (x : V) (m : String), vs = [x] ∧ Th K H x m ∧ Q (.bl (wholeB x)) H
def sp__law_is_point (K : PySem.W.Frag) : Sp := fun vs H Q _ => ∃ (ow td : Addr) (n : Nat) (L : List (Nat × Nat)) (x : V) (m : String), vs = [.ref ow, x] ∧ OwnAt H ow td n L ∧ Th K H x m ∧ Q (.bl (among x 0 ((n : Int) - 1))) H
def sp__law_due (K : PySem.W.Frag) : Sp := fun vs H Q _ => ∃ (ow td : Addr) (n : Nat) (R : Rel) (L : List (Nat × Nat)) (w : Str) (x y : V) (m m' : String), vs = [.ref ow, .str w, x, y] ∧ OwnAt H ow td n L ∧ Tell L n R ∧ Sym R ∧ wordOk w ∧ Th K H x m ∧ Th K H y m' ∧
  ∀ H', Same H H' → Q (.str (outK (outc n R w x y))) H'
def sp__law_call (K : PySem.W.Frag) (C : Addr) (es : Fin 4 → Addr) : Sp := fun vs H Q E => ∃ (p l : Addr) (n : Nat) (R : Rel) (w : Str) (x y : V) (m m' : String), vs = [.ref p, .str w, x, y] ∧ WebAt C H p l (webM n R) ∧ n ≤ 30 ∧ wordOk w ∧ Th K H x m ∧ Th K H y m' ∧
  match outc n R w x y with
  | .err k => E (.ref (es k)) none H
  | .ok v n' R' => WebAt C (upd H l (.lst (msk (webM n' R')))) p l (webM n' R') → Q v (upd H l (.lst (msk (webM n' R'))))
def sp__law_said (K : PySem.W.Frag) (C : Addr) : Sp := fun vs H Q _ => ∃ (p l : Addr) (n : Nat) (R : Rel) (w : Str) (x y : V) (m m' : String), vs = [.ref p, .str w, x, y] ∧ WebAt C H p l (webM n R) ∧ n ≤ 30 ∧ wordOk w ∧ Th K H x m ∧ Th K H y m' ∧
  match outc n R w x y with
  | .err k => ∀ t H', Same H H' → H' t = some (.tup [.str (outK (.err k)), .non]) → Q (.ref t) H'
  | .ok v n' R' => ∀ t H', Same (upd H l (.lst (msk (webM n' R')))) H' → WebAt C H' p l (webM n' R') → H' t = some (.tup [.str "", v]) → Q (.ref t) H'
/-- the law's account and the web, told alike -/
structure Both (C : Addr) (H : Hp) (p l ow td : Addr) (n : Nat) (R : Rel) (L : List (Nat × Nat)) : Prop where
  web : WebAt C H p l (webM n R)
  own : OwnAt H ow td n L
  tell : Tell L n R
  sym : Sym R
  le : n ≤ 30
  pos : 1 ≤ n
theorem Both.same {C : Addr} {H H' : Hp} {p l ow td : Addr} {n : Nat} {R : Rel} {L : List (Nat × Nat)} (s : Same H H') (h : Both C H p l ow td n R L) : Both C H' p l ow td n R L := ⟨h.web.same s, h.own.same s, h.tell, h.sym, h.le, h.pos⟩
/-- all but three addresses stay -/
def Stay (A : List Addr) (H H' : Hp) : Prop := ∀ b o, b ∉ A → H b = some o → H' b = some o
theorem Stay.same {A : List Addr} {H H' : Hp} (s : Same H H') : Stay A H H' := fun b o _ e => s b o e
theorem Stay.trans {A : List Addr} {H H1 H2 : Hp} (s : Stay A H H1) (t : Stay A H1 H2) : Stay A H H2 := fun b o n e => t b o n (s b o n e)
theorem Stay.upd {A : List Addr} {H : Hp} {a : Addr} {o : HO} (h : a ∈ A) : Stay A H (upd H a o) := fun b u n e => up_ne (fun z => n (z ▸ h)) e
theorem outK_err (k : Fin 4) : (!decide (outK (.err k) = Str.ofString "")) = true := by
  match k with
  | 0 => decide +kernel
  | 1 => decide +kernel
  | 2 => decide +kernel
  | 3 => decide +kernel
def sp__law_done (K : PySem.W.Frag) (C : Addr) : Sp := fun vs H Q _ => ∃ (p l ow td : Addr) (n : Nat) (R : Rel) (L : List (Nat × Nat)) (w : Str) (x y : V) (m m' : String), vs = [.ref p, .ref ow, .str w, x, y] ∧ Both C H p l ow td n R L ∧ wordOk w ∧ Th K H x m ∧ Th K H y m' ∧
  ∀ (n' : Nat) (R' : Rel) (L' : List (Nat × Nat)) (H' : Hp), n ≤ n' → Stay [l, ow, td] H H' → Both C H' p l ow td n' R' L' → Q (.bl true) H'
/-- a told thing: an int, or a pair of ints -/
def Told (H : Hp) (x : V) : Prop := (∃ i : Int, x = .int i) ∨ ∃ q, PairAt H x q
/-- two lists that hold the same, both none of A -/
def HeldAt (H : Hp) (A : List Addr) (x : V) : Prop := ∃ (t f g : Addr) (xs : List V), x = .ref t ∧ H t = some (.tup [.ref f, .ref g]) ∧ H f = some (.lst xs) ∧ H g = some (.lst xs) ∧ f ∉ A ∧ g ∉ A ∧ ∀ y ∈ xs, Told H y
def sp__law_looked (K : PySem.W.Frag) (C : Addr) : Sp := fun vs H Q _ => ∃ (p l ow td : Addr) (n : Nat) (R : Rel) (L : List (Nat × Nat)) (i : Nat) (he : Addr) (hs : List V) (A : List Addr), vs = [.ref p, .ref ow, .int i, .ref he] ∧ Both C H p l ow td n R L ∧ i < n ∧
  (H he = some (.lst hs) ∧ hs.length ≤ 1000 ∧ (∀ q ∈ A, H q ≠ none) ∧ he ∈ A ∧ he ≠ l ∧ ∀ x ∈ hs, HeldAt H A x) ∧
  ∀ (hs' : List V) (H' : Hp), Stay [he] H H' → H' he = some (.lst hs') → hs'.length = hs.length + 2 → (∀ x ∈ hs', HeldAt H' A x) → Q (.bl true) H'
def sp__law_beside_refused (K : PySem.W.Frag) (C : Addr) : Sp := fun vs H Q _ => ∃ (p l : Addr) (n : Nat) (R : Rel) (x : V) (m : String), vs = [.ref p, x] ∧ WebAt C H p l (webM n R) ∧ Th K H x m ∧ among x 0 ((n : Int) - 1) = false ∧ ∀ H', Same H H' → Q (.bl true) H'
def sp__law_size_refused (K : PySem.W.Frag) : Sp := fun vs H Q _ => ∃ (x : V) (m : String), vs = [x] ∧ Th K H x m ∧ among x 1 30 = false ∧ ∀ H', Same H H' → Q (.bl true) H'
section
variable {K : PySem.W.Frag} {H : Hp} {Q : VK} {E : XK} {a b : Addr} {x : V} {m : String} {n : Nat} {L : List (Nat × Nat)} {kvs : List (Key × V)} {kts : List (List Key × V)}
theorem u__law_whole (t : Th K H x m) (q : Q (.bl (wholeB x)) H) : sp__law_whole K [x] H Q E := ⟨x, m, rfl, t, q⟩
theorem u__law_is_point {ow td : Addr} (o : OwnAt H ow td n L) (t : Th K H x m) (q : Q (.bl (among x 0 ((n : Int) - 1))) H) : sp__law_is_point K [.ref ow, x] H Q E := ⟨ow, td, n, L, x, m, rfl, o, t, q⟩
/-! ### dicts, read and written -/
theorem s_dget {td ty : TE} {σ : Sl} (q : td σ H fun x H1 => ty σ H1 fun y H2 => ∃ a v, x = .ref a ∧ DGet H2 a y (some v) ∧ Q v H2) : tDGet td ty σ H Q := q
theorem s_dgetS {R : V → Prop} {z : Str} {v : V} (e : H a = some (.dK kvs)) (h : valV kvs (.inr z) = some v) (q : R v) : ∃ b v, V.ref a = .ref b ∧ DGet H b (.str z) (some v) ∧ R v := ⟨a, v, rfl, by rw [← h]; exact DGet.k (k := .inr z) e, q⟩
theorem s_din {td ty : TE} {σ : Sl} (q : ty σ H fun y H1 => td σ H1 fun x H2 => ∃ a o, x = .ref a ∧ DGet H2 a y o ∧ Q (.bl o.isSome) H2) : tDIn ty td σ H Q := q
theorem s_dinT {R : Option V → Prop} {t : Addr} {q : Nat × Nat} (e : H a = some (.dT (tieKV L))) (et : H t = some (.tup [.int q.1, .int q.2])) (k1 : q ∈ L → R (some (.bl true))) (k2 : q ∉ L → R none) : ∃ b o, V.ref a = .ref b ∧ DGet H b (.ref t) o ∧ R o :=
  ⟨a, valV (tieKV L) (tieK q), rfl, DGet.t e et, by
    rw [tieKV_val]
    by_cases h : q ∈ L
    · rw [if_pos h]; exact k1 h
    · rw [if_neg h]; exact k2 h⟩
theorem s_dput {td ty tv : TE} {D : Ends} {σ : Sl} (q : tv σ H fun v H1 => td σ H1 fun x H2 => ty σ H2 fun y H3 => ∃ a H4, x = .ref a ∧ DPut H3 a y v H4 ∧ D.nx σ H4) : sDPut td ty tv D σ H := q
theorem s_dputS {R : Hp → Prop} {z : Str} {v : V} (e : H a = some (.dK kvs)) (hl : kvs.length < sizeLine) (q : R (upd H a (.dK (putK kvs (.inr z) v)))) : ∃ b H4, V.ref a = .ref b ∧ DPut H b (.str z) v H4 ∧ R H4 := ⟨a, _, rfl, DPut.k (k := .inr z) e hl, q⟩
theorem s_dputT {R : Hp → Prop} {t : Addr} {q : Nat × Nat} {v : V} (e : H a = some (.dT kts)) (et : H t = some (.tup [.int q.1, .int q.2])) (hl : kts.length < sizeLine) (k : R (upd H a (.dT (putK kts (tieK q) v)))) : ∃ b H4, V.ref a = .ref b ∧ DPut H b (.ref t) v H4 ∧ R H4 := ⟨a, _, rfl, DPut.t (k := tieK q) e et hl, k⟩
theorem s_pop1T {t : Addr} {q : Nat × Nat} (e : H a = some (.dT (tieKV L))) (et : H t = some (.tup [.int q.1, .int q.2])) (hq : q ∈ L) (k : Q (.bl true) (upd H a (.dT (tieKV (L.filter fun p => decide (p ≠ q)))))) : rPop1T (.ref a) [.ref t] H Q :=
  ⟨a, _, tieK q, t, .bl true, rfl, rfl, e, et, by rw [tieKV_val, if_pos hq], by rw [tieKV_drop]; exact k⟩
theorem s_tyDT {R : Prop} (h : H a = some (.dT kts)) (q : R) : tyV K "dict" (.ref a) H ∧ R := ⟨by unfold tyV; simp [h], q⟩
theorem s_sortDT {ts : List (Nat × Nat)} (e : H a = some (.dT (tieKV L))) (pm : L.Perm ts) (od : ts.Pairwise lexLt) (k : ∀ p ys, H p = none → PairsAt (upd H p (.lst ys)) ys ts → Q (.ref p) (upd H p (.lst ys))) : rSortDT [.ref a] H Q :=
  ⟨a, _, L, ts, rfl, e, tieKV_keys L, pm, od, k⟩
end
end J

/-! Joinside, law k01: what is looked at: texts of lists, the ties beside a point. -/
namespace J
open PySem PySem.Spec L2
theorem small_int {i : Nat} (h : i < 1000) : PyData.leavesShort 13 (.int (i : Int)) = true ∧ PyData.weight (.int (i : Int)) ≤ 10 ∧ PyData.showable (.int (i : Int)) = true := by
  have hn : ((i : Int)).natAbs = i := Int.natAbs_natCast i
  have hl : i.log2 < 10 := by
    by_cases z : i = 0
    · subst z; decide
    · exact (Nat.log2_lt z).mpr (by omega)
  refine ⟨?_, ?_, ?_⟩
  · simp only [PyData.leavesShort, decide_eq_true_eq]
    exact PyData.shown_int_le (by rw [hn]; exact Nat.lt_of_lt_of_le h (by decide))
  · simp only [PyData.weight, hn]
    split <;> omega
  · simp only [PyData.showable, hn, decide_eq_true_eq]
    omega
def Small (q : Nat × Nat) : Prop := q.1 < 1000 ∧ q.2 < 1000
theorem pairs_show : ∀ qs : List (Nat × Nat), (∀ q ∈ qs, Small q) → PyData.leavesShortAll 13 (pairsD qs) = true ∧ PyData.weightAll (pairsD qs) ≤ 23 * qs.length ∧ PyData.showableAll (pairsD qs) = true
  | [], _ => ⟨rfl, Nat.le_refl _, rfl⟩
  | q :: qs, h => by
    obtain ⟨h1, h2, h3⟩ := pairs_show qs fun p hp => h p (List.mem_cons_of_mem _ hp)
    obtain ⟨s1, s2⟩ := h q List.mem_cons_self
    obtain ⟨a1, a2, a3⟩ := small_int s1
    obtain ⟨b1, b2, b3⟩ := small_int s2
    refine ⟨?_, ?_, ?_⟩
    · show PyData.leavesShortAll 13 (pairD q :: pairsD qs) = true
      simp only [PyData.leavesShortAll, pairD]
      rw [PyData.leavesShort]
      simp only [PyData.leavesShortAll, a1, b1, h1, Bool.and_self]
    · show PyData.weightAll (pairD q :: pairsD qs) ≤ _
      have e : PyData.weight (pairD q) = PyData.weight (.int (q.1 : Int)) + 1 + (PyData.weight (.int (q.2 : Int)) + 1 + 0) := by
        unfold pairD
        rw [PyData.weight]
        simp only [PyData.weightAll]
      rw [PyData.weightAll, e, List.length_cons]
      omega
    · show PyData.showableAll (pairD q :: pairsD qs) = true
      simp only [PyData.showableAll, pairD]
      rw [PyData.showable]
      simp only [PyData.showableAll, a3, b3, h3, Bool.and_self]
theorem ints_show : ∀ is : List Nat, (∀ i ∈ is, i < 1000) → PyData.leavesShortAll 13 (is.map fun (m : Nat) => PyData.int (m : Int)) = true ∧ PyData.weightAll (is.map fun (m : Nat) => PyData.int (m : Int)) ≤ 11 * is.length ∧ PyData.showableAll (is.map fun (m : Nat) => PyData.int (m : Int)) = true
  | [], _ => ⟨rfl, Nat.le_refl _, rfl⟩
  | i :: is, h => by
    obtain ⟨h1, h2, h3⟩ := ints_show is fun p hp => h p (List.mem_cons_of_mem _ hp)
    obtain ⟨a1, a2, a3⟩ := small_int (h i List.mem_cons_self)
    rw [List.map_cons]
    refine ⟨?_, ?_, ?_⟩
    · rw [PyData.leavesShortAll, a1, h1]; rfl
    · rw [PyData.weightAll, List.length_cons]; omega
    · rw [PyData.showableAll, a3, h3]; rfl
section
variable {K : PySem.W.Frag} {H : Hp} {Q : VK} {a : Addr} {xs : List V} {qs : List (Nat × Nat)} {is : List Nat}
theorem s_reprP (h : SqL K H a xs) (hp : PairsAt H xs qs) (sm : ∀ q ∈ qs, Small q) (hl : qs.length ≤ 1000) (k : Q (.str (PyData.list (pairsD qs)).shown) H) : rRepr K [.ref a] H Q := by
  obtain ⟨h1, h2, h3⟩ := pairs_show qs sm
  have d := (pairs_lay qs).2
  refine s_repr (.lst h hp.dp) (by rw [PyData.showable]; exact h3) (by simp only [PyData.depth]; omega) ?_ k
  refine PyData.shown_fits (B := 13) (by decide) (by decide) (by rw [PyData.leavesShort]; exact h1) ?_
  rw [PyData.weight]
  exact Nat.le_trans (m := 23000) (by omega) (by decide)
theorem s_reprI (h : SqL K H a (msk is)) (sm : ∀ i ∈ is, i < 1000) (hl : is.length ≤ 1000) (k : Q (.str (intD is).shown) H) : rRepr K [.ref a] H Q := by
  obtain ⟨h1, h2, h3⟩ := ints_show is sm
  have d := (intD_lay is).2
  refine s_repr (d := intD is) (.lst h (dp_ints is)) (by unfold intD; rw [PyData.showable]; exact h3) (by unfold intD; simp only [PyData.depth]; omega) ?_ k
  refine PyData.shown_fits (B := 13) (by decide) (by decide) (by unfold intD; rw [PyData.leavesShort]; exact h1) ?_
  unfold intD
  rw [PyData.weight]
  exact Nat.le_trans (m := 23000) (by omega) (by decide)
end
/-! ### the points beside a point, told by the ties -/
def nearN (i : Nat) (L : List (Nat × Nat)) : List Nat := L.filterMap fun q => if i = q.1 ∨ i = q.2 then some (q.1 + q.2 - i) else none
theorem near_mem {i n x : Nat} {R : Rel} {L : List (Nat × Nat)} (h : Tell L n R) (S : Sym R) (hi : i < n) : x ∈ nearN i L ↔ x < n ∧ R i x = true := by
  unfold nearN
  rw [List.mem_filterMap]
  constructor
  · rintro ⟨⟨a, b⟩, hq, e⟩
    have m := (h.me a b).mp hq
    dsimp only at e
    by_cases c : i = a ∨ i = b
    · rw [if_pos c] at e
      have e' : a + b - i = x := Option.some.inj e
      rcases c with rfl | rfl
      · rw [show x = b by omega]; exact ⟨m.2.1, m.2.2⟩
      · rw [show x = a by omega, S.sy]; exact ⟨by omega, m.2.2⟩
    · rw [if_neg c] at e; cases e
  · rintro ⟨hx, hr⟩
    have ne : i ≠ x := fun e => by subst e; rw [S.ir] at hr; cases hr
    by_cases c : i < x
    · exact ⟨(i, x), (h.me _ _).mpr ⟨c, hx, hr⟩, by dsimp only; rw [if_pos (.inl rfl)]; congr 1; omega⟩
    · exact ⟨(x, i), (h.me _ _).mpr ⟨by omega, hi, by rw [S.sy]; exact hr⟩, by dsimp only; rw [if_pos (.inr rfl)]; congr 1; omega⟩
theorem near_nd {i n : Nat} {L : List (Nat × Nat)} (h : ∀ q ∈ L, q.1 < q.2 ∧ q.2 < n) (nd : L.Nodup) : (nearN i L).Nodup := by
  unfold nearN
  refine List.Pairwise.filterMap _ ?_ (List.pairwise_and_iff.mpr ⟨nd, List.Pairwise.imp_mem.mpr (List.pairwise_of_forall fun p q hp hq => (⟨h p hp, h q hq⟩ : (p.1 < p.2 ∧ p.2 < n) ∧ (q.1 < q.2 ∧ q.2 < n)))⟩)
  rintro ⟨a, b⟩ ⟨c, d⟩ ⟨ne, hp, hq⟩ x hx y hy e
  subst e
  dsimp only at hp hq
  by_cases c1 : i = a ∨ i = b
  · by_cases c2 : i = c ∨ i = d
    · simp only [c1, c2, if_true, Option.some.injEq] at hx hy
      exact ne (by rw [Prod.mk.injEq]; omega)
    · simp [c2] at hy
  · simp [c1] at hx
theorem near_perm {i n : Nat} {R : Rel} {L : List (Nat × Nat)} (h : Tell L n R) (S : Sym R) (hi : i < n) : (nearN i L).Perm ((List.range n).filter (R i)) := by
  refine perm_of (near_nd (n := n) (fun q hq => ?_) h.nd) (List.nodup_range.sublist List.filter_sublist) fun x => ?_
  · have := (h.me q.1 q.2).mp hq
    exact ⟨this.1, this.2.1⟩
  · rw [near_mem h S hi, List.mem_filter, List.mem_range]
theorem filt_le {n : Nat} {f : Nat → Bool} : ((List.range n).filter f).Pairwise (· ≤ ·) := (List.pairwise_lt_range.filter _).imp fun h => Nat.le_of_lt h
theorem near_take {i j : Nat} {L : List (Nat × Nat)} {q : Nat × Nat} (h : L[j]? = some q) : nearN i (L.take (j + 1)) = nearN i (L.take j) ++ (if i = q.1 ∨ i = q.2 then [q.1 + q.2 - i] else []) := by
  unfold nearN
  rw [take_succ_of h, List.filterMap_append]
  congr 1
  by_cases c : i = q.1 ∨ i = q.2 <;> simp [c]
theorem lock_back {H : Hp} {d D : Addr} {u f o : HO} (h : H d = some u) (ne : D ≠ d) : upd (upd (upd H d f) D o) d u = upd H D o := by
  funext b
  by_cases e : b = d
  · subst e; rw [upd_same, upd_ne (Ne.symm ne), h]
  · rw [upd_ne e]
    by_cases e2 : b = D
    · subst e2; rw [upd_same, upd_same]
    · rw [upd_ne e2, upd_ne e2, upd_ne e]
section
variable {K : PySem.W.Frag} {H : Hp} {Q : VK} {a : Addr} {σ : Sl}
theorem s_sortI {is ts : List Nat} (h : SqL K H a (msk is)) (pm : is.Perm ts) (od : ts.Pairwise (· ≤ ·)) (k : ∀ p, H p = none → Q (.ref p) (upd H p (.lst (msk ts)))) : rSorted K [.ref a] H Q := by
  refine .inl ⟨a, is.map fun (m : Nat) => (m : Int), rfl, by rw [← msk_ints]; exact h, fun ns' p pm2 od2 hp => ?_⟩
  have e : ns' = ts.map fun (m : Nat) => (m : Int) := by
    refine List.Perm.eq_of_pairwise (le := fun (x y : Int) => x ≤ y) (fun a b _ _ h1 h2 => by omega) od2 ?_ (pm2.trans (pm.map _))
    rw [List.pairwise_map]
    exact od.imp fun h => by omega
  rw [e, ← msk_ints]
  exact k p hp
theorem s_ikeys {td : TE} {R : It → Hp → Prop} (q : td σ H fun x H1 => ∃ d o, x = .ref d ∧ ((∃ kvs, H1 d = some (.frz o (.dK kvs)) ∧ R (Itk d o kvs) H1) ∨ ∃ kvs, H1 d = some (.frz o (.dT kvs)) ∧ R (Itkt d o kvs) H1)) : iKeys td σ H R := q
theorem s_ikeysT {R : It → Prop} {o : Obj} {kvs : List (List Key × V)} (e : H a = some (.frz o (.dT kvs))) (q : R (Itkt a o kvs)) : ∃ d o, V.ref a = .ref d ∧ ((∃ kvs, H d = some (.frz o (.dK kvs)) ∧ R (Itk d o kvs)) ∨ ∃ kvs, H d = some (.frz o (.dT kvs)) ∧ R (Itkt d o kvs)) := ⟨a, o, rfl, .inr ⟨kvs, e, q⟩⟩
theorem s_izip {ta : TA} {R : It → Hp → Prop} (q : ta σ H fun vs H1 => ∃ a b xs ys, vs = [.ref a, .ref b] ∧ SqL K H1 a xs ∧ SqL K H1 b ys ∧ R (Itz K a b) H1) : iZip K ta σ H R := q
end
theorem Told.stay {H H' : Hp} {he : Addr} {hs : List V} {x : V} (e : H he = some (.lst hs)) (s : Stay [he] H H') (h : Told H x) : Told H' x := by
  rcases h with h | ⟨q, t, rfl, et⟩
  · exact .inl h
  · exact .inr ⟨q, t, rfl, s _ _ (by simpa using ne_of et e (by intro z; cases z)) et⟩
theorem HeldAt.stay {H H' : Hp} {A : List Addr} {he : Addr} {hs : List V} {x : V} (m : he ∈ A) (e : H he = some (.lst hs)) (s : Stay [he] H H') (h : HeldAt H A x) : HeldAt H' A x := by
  obtain ⟨t, f, g, xs, rfl, et, ef, eg, nf, ng, tl⟩ := h
  refine ⟨t, f, g, xs, rfl, s _ _ (by simpa using ne_of et e (by intro z; cases z)) et, s _ _ ?_ ef, s _ _ ?_ eg, nf, ng, fun y hy => (tl y hy).stay e s⟩
  · intro z; rw [List.mem_singleton] at z; exact nf (z ▸ m)
  · intro z; rw [List.mem_singleton] at z; exact ng (z ▸ m)
theorem HeldAt.less {H : Hp} {A : List Addr} {q : Addr} {x : V} (h : HeldAt H (q :: A) x) : HeldAt H A x := by
  obtain ⟨t, f, g, xs, e, et, ef, eg, nf, ng, tl⟩ := h
  exact ⟨t, f, g, xs, e, et, ef, eg, fun z => nf (List.mem_cons_of_mem _ z), fun z => ng (List.mem_cons_of_mem _ z), tl⟩
theorem Stay.mut {A : List Addr} {H H' : Hp} {q : Addr} {o : HO} (s : Stay A H H') (h : H q = none) : Stay A H (L2.upd H' q o) := fun b u n e => up_ne (ne_of_none e h) (s b u n e)
theorem Stay.same' {A : List Addr} {H H' H2 : Hp} (s : Stay A H H') (t : Same H' H2) : Stay A H H2 := fun b u n e => t _ _ (s b u n e)
theorem turn_end {H Y Y2 : Hp} {B : List Addr} {he f c t : Addr} {hv zs : List V} (hBv : ∀ q ∈ B, Y q ≠ none) (hmem : he ∈ B) (St : Stay [he] H Y) (eh : Y he = some (.lst hv)) (ef : Y f = some (.lst zs)) (nf : f ∉ B) (tl : ∀ y ∈ zs, Told Y y)
    (hc : Y c = none) (S : Same Y Y2) (ec : Y2 c = some (.lst zs)) (ht : Y2 t = none) :
    HeldAt (L2.upd (L2.upd Y2 t (.tup [V.ref f, V.ref c])) he (.lst (hv ++ [V.ref t]))) B (.ref t) ∧ (∀ b o, b ≠ he → Y b = some o → L2.upd (L2.upd Y2 t (.tup [V.ref f, V.ref c])) he (.lst (hv ++ [V.ref t])) b = some o) ∧
    Stay [he] H (L2.upd (L2.upd Y2 t (.tup [V.ref f, V.ref c])) he (.lst (hv ++ [V.ref t]))) := by
  have keep : ∀ b o, b ≠ he → Y b = some o → L2.upd (L2.upd Y2 t (.tup [V.ref f, V.ref c])) he (.lst (hv ++ [V.ref t])) b = some o := fun b o n e => up_ne n (up_old ht (S _ _ e))
  have st : Stay [he] Y (L2.upd (L2.upd Y2 t (.tup [V.ref f, V.ref c])) he (.lst (hv ++ [V.ref t]))) := fun b o n e => keep b o (by simpa using n) e
  have nfh : f ≠ he := fun z => nf (z ▸ hmem)
  have nch : c ≠ he := (ne_of_none eh hc).symm
  have nth : t ≠ he := (ne_of_none (S _ _ eh) ht).symm
  refine ⟨⟨t, f, c, zs, rfl, up_ne nth upd_same, keep _ _ nfh ef, up_ne nch (up_old ht ec), nf, fun z => hBv c z hc, fun y hy => (tl y hy).stay eh st⟩, keep, St.trans st⟩
theorem Stay.there {H Y : Hp} {he q : Addr} (s : Stay [he] H Y) (h : Y he ≠ none) (hq : H q ≠ none) : Y q ≠ none := by
  by_cases e : q = he
  · subst e; exact h
  · obtain ⟨o, ho⟩ := Option.ne_none_iff_exists'.mp hq
    rw [s q o (by simpa using e) ho]
    exact fun z => by cases z
theorem told_pairs {H : Hp} {xs : List V} {qs : List (Nat × Nat)} (h : PairsAt H xs qs) : ∀ y ∈ xs ++ [V.int 0], Told H y := by
  intro y hy
  rcases List.mem_append.mp hy with hy | hy
  · exact .inr ⟨_, h.all y hy⟩
  · rw [List.mem_singleton] at hy
    exact .inl ⟨0, hy⟩
theorem told_ints {H : Hp} {is : List Nat} : ∀ y ∈ msk is ++ [V.int 0], Told H y := by
  intro y hy
  rcases List.mem_append.mp hy with hy | hy
  · obtain ⟨m, _, rfl⟩ := List.mem_map.mp hy
    exact .inl ⟨_, rfl⟩
  · rw [List.mem_singleton] at hy
    exact .inl ⟨0, hy⟩
end J

/-! Joinside, law k01: two webs side by side with their accounts. -/
namespace J
open PySem PySem.Spec L2
/-- the addresses of two webs, of their accounts, of the lists that hold them -/
structure Adr where
  p : Nat → Addr
  l : Nat → Addr
  ow : Nat → Addr
  td : Nat → Addr
  wl : Addr
  ol : Addr
  he : Addr
def Adr.mut (A : Adr) : List Addr := [A.l 0, A.ow 0, A.td 0, A.l 1, A.ow 1, A.td 1, A.wl, A.ol, A.he]
structure Two (C : Addr) (H0 H : Hp) (A : Adr) (n : Nat → Nat) (R : Nat → Rel) (L : Nat → List (Nat × Nat)) (hs : List V) : Prop where
  both : ∀ b, b < 2 → Both C H (A.p b) (A.l b) (A.ow b) (A.td b) (n b) (R b) (L b)
  wl : H A.wl = some (.lst [.ref (A.p 0), .ref (A.p 1)])
  ol : H A.ol = some (.lst [.ref (A.ow 0), .ref (A.ow 1)])
  he : H A.he = some (.lst hs)
  sc : Same H0 H
  fr : ∀ q ∈ A.mut, H0 q = none
  nd : A.mut.Nodup
  held : ∀ x ∈ hs, HeldAt H A.mut x
theorem Stay.sc {B : List Addr} {H0 H H' : Hp} (s : Stay B H H') (sc : Same H0 H) (fr : ∀ q ∈ B, H0 q = none) : Same H0 H' := fun b o e => s b o (fun z => by rw [fr b z] at e; cases e) (sc b o e)
/-- a thing of the heap that is no tuple -/
def NoTup (H : Hp) (q : Addr) : Prop := ∀ xs, H q ≠ some (.tup xs)
theorem HeldAt.stayB {H H' : Hp} {A B : List Addr} {x : V} (sub : ∀ q ∈ B, q ∈ A) (nt : ∀ q ∈ B, NoTup H q) (s : Stay B H H') (h : HeldAt H A x) : HeldAt H' A x := by
  obtain ⟨t, f, g, xs, rfl, et, ef, eg, nf, ng, tl⟩ := h
  refine ⟨t, f, g, xs, rfl, s _ _ (fun z => nt t z _ et) et, s _ _ (fun z => nf (sub _ z)) ef, s _ _ (fun z => ng (sub _ z)) eg, nf, ng, fun y hy => ?_⟩
  rcases tl y hy with h | ⟨q, t', rfl, e'⟩
  · exact .inl h
  · exact .inr ⟨q, t', rfl, s _ _ (fun z => nt t' z _ e') e'⟩
theorem Both.stay {C : Addr} {H H' : Hp} {p l ow td : Addr} {n : Nat} {R : Rel} {L : List (Nat × Nat)} {B : List Addr} (s : Stay B H H') (h : Both C H p l ow td n R L) (h1 : p ∉ B) (h2 : l ∉ B) (h3 : ow ∉ B) (h4 : td ∉ B) : Both C H' p l ow td n R L := by
  obtain ⟨dx, e⟩ := h.web.ob
  exact ⟨⟨⟨dx, s _ _ h1 e⟩, s _ _ h2 h.web.li, h.web.sz⟩, ⟨s _ _ h3 h.own.ob, s _ _ h4 h.own.ti⟩, h.tell, h.sym, h.le, h.pos⟩
section
variable {C : Addr} {H0 H H' : Hp} {A : Adr} {n : Nat → Nat} {R : Nat → Rel} {L : Nat → List (Nat × Nat)} {hs : List V}
theorem Two.same (T : Two C H0 H A n R L hs) (s : Same H H') : Two C H0 H' A n R L hs :=
  ⟨fun b hb => (T.both b hb).same s, s _ _ T.wl, s _ _ T.ol, s _ _ T.he, T.sc.trans s, T.fr, T.nd, fun x hx => (T.held x hx).stayB (B := []) (fun q z => by cases z) (fun q z => by cases z) (Stay.same s)⟩
theorem Two.noTup (T : Two C H0 H A n R L hs) : ∀ q ∈ A.mut, NoTup H q := by
  intro q hq xs e
  have b0 := T.both 0 (by decide)
  have b1 := T.both 1 (by decide)
  simp only [Adr.mut, List.mem_cons, List.not_mem_nil, or_false] at hq
  rcases hq with rfl | rfl | rfl | rfl | rfl | rfl | rfl | rfl | rfl
  · rw [b0.web.li] at e; cases e
  · rw [b0.own.ob] at e; cases e
  · rw [b0.own.ti] at e; cases e
  · rw [b1.web.li] at e; cases e
  · rw [b1.own.ob] at e; cases e
  · rw [b1.own.ti] at e; cases e
  · rw [T.wl] at e; cases e
  · rw [T.ol] at e; cases e
  · rw [T.he] at e; cases e
theorem Two.noIns (T : Two C H0 H A n R L hs) {b : Nat} (hb : b < 2) : A.p b ∉ A.mut := by
  intro hq
  obtain ⟨dx, e⟩ := (T.both b hb).web.ob
  have b0 := T.both 0 (by decide)
  have b1 := T.both 1 (by decide)
  generalize A.p b = q at hq e
  simp only [Adr.mut, List.mem_cons, List.not_mem_nil, or_false] at hq
  rcases hq with rfl | rfl | rfl | rfl | rfl | rfl | rfl | rfl | rfl
  · rw [b0.web.li] at e; cases e
  · rw [b0.own.ob] at e; cases e
  · rw [b0.own.ti] at e; cases e
  · rw [b1.web.li] at e; cases e
  · rw [b1.own.ob] at e; cases e
  · rw [b1.own.ti] at e; cases e
  · rw [T.wl] at e; cases e
  · rw [T.ol] at e; cases e
  · rw [T.he] at e; cases e
/-- a deed on web b -/
theorem Two.deed (T : Two C H0 H A n R L hs) {b : Nat} (hb : b < 2) {n' : Nat} {R' : Rel} {L' : List (Nat × Nat)} (s : Stay [A.l b, A.ow b, A.td b] H H') (B' : Both C H' (A.p b) (A.l b) (A.ow b) (A.td b) n' R' L') :
    Two C H0 H' A (fun c => if c = b then n' else n c) (fun c => if c = b then R' else R c) (fun c => if c = b then L' else L c) hs := by
  have nd := T.nd
  simp only [Adr.mut, List.nodup_cons, List.mem_cons, List.not_mem_nil, or_false, not_or, List.nodup_nil, and_true, not_false_eq_true] at nd
  have sub : ∀ q ∈ [A.l b, A.ow b, A.td b], q ∈ A.mut := by
    intro q hq
    simp only [List.mem_cons, List.not_mem_nil, or_false] at hq
    have : b = 0 ∨ b = 1 := by omega
    rcases this with rfl | rfl <;> rcases hq with rfl | rfl | rfl <;> simp [Adr.mut]
  have wl : A.wl ∉ [A.l b, A.ow b, A.td b] := by
    have : b = 0 ∨ b = 1 := by omega
    simp only [List.mem_cons, List.not_mem_nil, or_false, not_or]
    rcases this with rfl | rfl <;> refine ⟨?_, ?_, ?_⟩ <;> (intro z; simp [z] at nd)
  have ol : A.ol ∉ [A.l b, A.ow b, A.td b] := by
    have : b = 0 ∨ b = 1 := by omega
    simp only [List.mem_cons, List.not_mem_nil, or_false, not_or]
    rcases this with rfl | rfl <;> refine ⟨?_, ?_, ?_⟩ <;> (intro z; simp [z] at nd)
  have he : A.he ∉ [A.l b, A.ow b, A.td b] := by
    have : b = 0 ∨ b = 1 := by omega
    simp only [List.mem_cons, List.not_mem_nil, or_false, not_or]
    rcases this with rfl | rfl <;> refine ⟨?_, ?_, ?_⟩ <;> (intro z; simp [z] at nd)
  refine ⟨fun c hc => ?_, s _ _ wl T.wl, s _ _ ol T.ol, s _ _ he T.he, s.sc T.sc fun q hq => T.fr q (sub q hq), T.fr, T.nd, fun x hx => (T.held x hx).stayB sub (fun q hq => T.noTup q (sub q hq)) s⟩
  by_cases e : c = b
  · subst e
    simp only [if_true]
    exact B'
  · simp only [e, if_false]
    refine (T.both c hc).stay s (fun z => T.noIns hc (sub _ z)) ?_ ?_ ?_
    all_goals
      have : (b = 0 ∧ c = 1) ∨ (b = 1 ∧ c = 0) := by omega
      simp only [List.mem_cons, List.not_mem_nil, or_false, not_or]
      rcases this with ⟨rfl, rfl⟩ | ⟨rfl, rfl⟩ <;> refine ⟨?_, ?_, ?_⟩ <;> (intro z; simp [z] at nd)
/-- something held more -/
theorem Two.more (T : Two C H0 H A n R L hs) {hs' : List V} (s : Stay [A.he] H H') (e : H' A.he = some (.lst hs')) (hh : ∀ x ∈ hs', HeldAt H' A.mut x) : Two C H0 H' A n R L hs' := by
  have nd := T.nd
  simp only [Adr.mut, List.nodup_cons, List.mem_cons, List.not_mem_nil, or_false, not_or, List.nodup_nil, and_true, not_false_eq_true] at nd
  have hm : A.he ∈ A.mut := by simp [Adr.mut]
  have ne : ∀ q, q ≠ A.he → q ∉ [A.he] := fun q h z => h (List.mem_singleton.mp z)
  refine ⟨fun c hc => ?_, s _ _ (ne _ ?_) T.wl, s _ _ (ne _ ?_) T.ol, e, s.sc T.sc (fun q hq => by rw [List.mem_singleton] at hq; subst hq; exact T.fr _ hm), T.fr, T.nd, hh⟩
  · refine (T.both c hc).stay s (ne _ fun z => T.noIns hc (z ▸ hm)) (ne _ ?_) (ne _ ?_) (ne _ ?_)
    all_goals
      have : c = 0 ∨ c = 1 := by omega
      rcases this with rfl | rfl <;> (intro z; simp [z] at nd)
  · intro z; simp [z] at nd
  · intro z; simp [z] at nd
theorem Two.heL (T : Two C H0 H A n R L hs) {b : Nat} (hb : b < 2) : A.he ≠ A.l b := by
  have nd := T.nd
  simp only [Adr.mut, List.nodup_cons, List.mem_cons, List.not_mem_nil, or_false, not_or, List.nodup_nil, and_true, not_false_eq_true] at nd
  have : b = 0 ∨ b = 1 := by omega
  rcases this with rfl | rfl <;> (intro z; simp [z] at nd)
end
theorem own_merge (n : Nat) (td : Addr) : mergeK [] (ownK n td) = ownK n td := by
  have ne : ((.inr "many" : Key) = .inr "ties") = False := by
    apply propext
    exact ⟨key_ne, False.elim⟩
  unfold mergeK ownK
  simp [putK, ne]
theorem s_dnewT {σ : Sl} {H : Hp} {Q : VK} (q : ∀ p, H p = none → Q (.ref p) (upd H p (.dT []))) : tDNewT σ H Q := q
theorem s_ownNew {σ : Sl} {H : Hp} {Q : VK} {n i : Nat} (hv : σ[i]? = some (some (.int n))) (q : ∀ ow td H', H ow = none → H td = none → Same H H' → OwnAt H' ow td n [] → Q (.ref ow) H') : tDisp [(tC (.str "many"), tVar i), (tC (.str "ties"), tDNewT)] σ H Q := by
  intro p hp
  refine ⟨.int n, hv, fun td htd => ?_⟩
  have n1 : p ≠ td := ne_of_none upd_same htd
  refine ⟨up_ne n1 upd_same, ownK n td, rfl, by show 2 ≤ 15; decide, ?_⟩
  rw [own_merge]
  refine q p td _ hp (free_of htd) ?_ ⟨upd_same, up_ne n1.symm upd_same⟩
  exact Same.mut ((Same.new hp).trans (Same.new htd)) hp
def setAt (f : Nat → Nat) (i x : Nat) : Nat → Nat := fun b => if b = i then x else f b
theorem setAt_eq (f : Nat → Nat) (i x : Nat) : setAt f i x i = x := if_pos rfl
theorem setAt_ne {f : Nat → Nat} {i x b : Nat} (h : b ≠ i) : setAt f i x b = f b := if_neg h
theorem map_setAt {β : Type} (g : Nat → β) (f : Nat → Nat) (i x : Nat) : ((List.range (i + 1)).map fun b => g (setAt f i x b)) = ((List.range i).map fun b => g (f b)) ++ [g x] := by
  rw [List.range_succ, List.map_append]
  congr 1
  · apply List.map_congr_left
    intro b hb
    rw [setAt_ne (Nat.ne_of_lt (List.mem_range.mp hb))]
  · simp [setAt_eq]
theorem nd_setAt {L O T : Nat → Nat} {i l o t : Nat} {xs : List Nat} (nd : (xs ++ (List.range i).flatMap fun b => [L b, O b, T b]).Nodup) (hl : l ∉ xs ++ (List.range i).flatMap fun b => [L b, O b, T b]) (ho : o ∉ xs ++ (List.range i).flatMap fun b => [L b, O b, T b]) (ht : t ∉ xs ++ (List.range i).flatMap fun b => [L b, O b, T b])
    (n1 : l ≠ o) (n2 : l ≠ t) (n3 : o ≠ t) : (xs ++ (List.range (i + 1)).flatMap fun b => [setAt L i l b, setAt O i o b, setAt T i t b]).Nodup := by
  have e : ((List.range (i + 1)).flatMap fun b => [setAt L i l b, setAt O i o b, setAt T i t b]) = ((List.range i).flatMap fun b => [L b, O b, T b]) ++ [l, o, t] := by
    rw [List.range_succ, List.flatMap_append]
    congr 1
    · rw [List.flatMap_def, List.flatMap_def]
      congr 1
      apply List.map_congr_left
      intro b hb
      have := Nat.ne_of_lt (List.mem_range.mp hb)
      rw [setAt_ne this, setAt_ne this, setAt_ne this]
    · simp [setAt_eq]
  rw [e, ← List.append_assoc, List.nodup_append]
  refine ⟨nd, by simp [n1, n2, n3], fun a ha b hb z => ?_⟩
  subst z
  simp only [List.mem_cons, List.not_mem_nil, or_false] at hb
  rcases hb with rfl | rfl | rfl
  · exact hl ha
  · exact ho ha
  · exact ht ha
theorem two_at (f : Nat → Addr) {b : Nat} (hb : b < 2) : ([V.ref (f 0), V.ref (f 1)] : List V)[b]? = some (V.ref (f b)) := by
  have : b = 0 ∨ b = 1 := by omega
  rcases this with rfl | rfl <;> rfl
theorem which_is (p : Prop) [Decidable p] : ∃ b : Nat, b < 2 ∧ (if decide p = true then (1 : Int) else 0) = (b : Int) := by
  by_cases h : p
  · exact ⟨1, by decide, by rw [decide_eq_true h]; rfl⟩
  · exact ⟨0, by decide, by rw [decide_eq_false h]; rfl⟩
theorem Th.stay {K : PySem.W.Frag} {H H' : Hp} {B : List Addr} {x : V} {m : String} (nt : ∀ q, x = .ref q → q ∉ B) (s : Stay B H H') (h : Th K H x m) : Th K H' x m := by
  cases h with
  | non => exact .non
  | bl b => exact .bl b
  | int i => exact .int i
  | str x => exact .str x
  | lst e => exact .lst (s _ _ (nt _ rfl) e)
  | frz e => exact .frz (s _ _ (nt _ rfl) e)
  | tup e => exact .tup (s _ _ (nt _ rfl) e)
  | dK e => exact .dK (s _ _ (nt _ rfl) e)
  | dT e => exact .dT (s _ _ (nt _ rfl) e)
theorem Two.there {C : Addr} {H0 H : Hp} {A : Adr} {n : Nat → Nat} {R : Nat → Rel} {L : Nat → List (Nat × Nat)} {hs : List V} (T : Two C H0 H A n R L hs) : ∀ q ∈ A.mut, H q ≠ none := by
  intro q hq e
  have b0 := T.both 0 (by decide)
  have b1 := T.both 1 (by decide)
  simp only [Adr.mut, List.mem_cons, List.not_mem_nil, or_false] at hq
  rcases hq with rfl | rfl | rfl | rfl | rfl | rfl | rfl | rfl | rfl
  · rw [b0.web.li] at e; cases e
  · rw [b0.own.ob] at e; cases e
  · rw [b0.own.ti] at e; cases e
  · rw [b1.web.li] at e; cases e
  · rw [b1.own.ob] at e; cases e
  · rw [b1.own.ti] at e; cases e
  · rw [T.wl] at e; cases e
  · rw [T.ol] at e; cases e
  · rw [T.he] at e; cases e
/-! ### what is held is the same -/
theorem told_dp {K : PySem.W.Frag} {H : Hp} {x : V} (h : Told H x) : ∃ d, Dp K H x d ∧ d.canLay0 = true ∧ d.depth ≤ 1 := by
  rcases h with ⟨i, rfl⟩ | ⟨q, hq⟩
  · exact ⟨.int i, .int i, rfl, by simp only [PyData.depth]; omega⟩
  · exact ⟨pairD q, hq.dp, rfl, by simp only [pairD, PyData.depth, PyData.depthAll]; omega⟩
theorem Told.same {H H' : Hp} {x : V} (s : Same H H') (h : Told H x) : Told H' x := by
  rcases h with h | ⟨q, h⟩
  · exact .inl h
  · exact .inr ⟨q, h.same s⟩
theorem told_all {K : PySem.W.Frag} {H : Hp} : ∀ xs : List V, (∀ y ∈ xs, Told H y) → ∃ ds, DpAll K H xs ds ∧ PyData.canLayAll0 ds = true ∧ PyData.depthAll ds ≤ 1
  | [], _ => ⟨[], .nil, rfl, by decide⟩
  | x :: xs, h => by
    obtain ⟨ds, h1, h2, h3⟩ := told_all xs fun y hy => h y (List.mem_cons_of_mem _ hy)
    obtain ⟨d, e1, e2, e3⟩ := told_dp (K := K) (h x List.mem_cons_self)
    refine ⟨d :: ds, .cons e1 h1, ?_, ?_⟩
    · simp only [PyData.canLayAll0, e2, h2, Bool.and_self]
    · simp only [PyData.depthAll]; omega
theorem held_ne {K : PySem.W.Frag} {H : Hp} {Q : VK} {f g : Addr} {xs : List V} (ef : H f = some (.lst xs)) (eg : H g = some (.lst xs)) (tl : ∀ y ∈ xs, Told H y) (q : Q (.bl false) H) : rNeA K (.ref f) (.ref g) H Q := by
  obtain ⟨ds, h1, h2, h3⟩ := told_all (K := K) xs tl
  have sh : SeqAt.shaped (.list ds) = true := by
    unfold SeqAt.shaped
    rw [Bool.and_eq_true]
    exact ⟨h2, decide_eq_true (by simp only [PyData.depth]; omega)⟩
  refine s_neD (.lst (SqL.of ef) h1) (.lst (SqL.of eg) h1) sh sh ?_
  rw [show PyData.eqv (.list ds) (.list ds) = true from SeqAt.eqv_refl _ (SeqAt.canLay_of_shaped sh)]
  exact q
end J

/-! Joinside, the end: from the law's promise to its row. -/
namespace J
open PySem PySem.Spec PyProof.Rows L2
section
variable {P : Program} {w : World} {K : PySem.W.Frag} {mg mb : Str → Option Value} {k : Nat} {fa a : Addr} {fd : FuncData} {x : Str} {sp : Sp} {s₁ : Shared} {vs : List Value} {ns : List Int}
/-- the law is called from a heap in which nothing is tracked but, perhaps, the script -/
theorem law_from {H : Hp} (kin : K.In s₁.heap) (glob : s₁.heap.Ns mainGlobals mg) (blt : s₁.heap.Ns builtinsNs mb) (same : ∀ x : Str, x ≠ "__name__" → mb x = bootBuiltins x) (nolim : s₁.heap.NoLimit) (still : s₁.gens = #[])
    (ha : s₁.heap.get? a = some { cls := .type "list", data := .seq vs.toArray }) (room : Room k callerA) (F : ∀ base : Heap, K.In base → base.Ns mainGlobals mg → FnG P w K mg base k fa fd [x] sp)
    (bound : ∀ (s : Shared) (u : Value), BindsTo s fd ⟨[u], []⟩ [(x, u)]) (asked : sp [.ref a] H (fun v _ => v = .bl true) fun _ _ _ => False) (only : Only H) (ok : HOk P w H s₁.heap) (inA : ∀ b, H b ≠ none → b = a) (outK : H a ≠ none → K.lookup a = none) :
    codeAny (model P w) callerA (.call (.ref fa) ⟨[.ref a], []⟩) (fun r s' => r = .ok (.ret (.bool true)) ∧ OldK s₁.heap s'.heap ∧ s'.os = s₁.os ∧ AllBare s'.gens) s₁ := by
  have free : ∀ {b : Addr} {o : Obj} {es : Array DictEntry} {ep : Nat}, s₁.heap.get? b = some o → o.data = .dict es ep → H b = none := by
    intro b o es ep at_b isDict
    by_cases q : H b = none
    · exact q
    · have eq := inA b q
      subst eq
      rw [ha] at at_b
      injection at_b with at_b
      subst at_b
      exact nomatch isDict
  have names : ∀ {b : Addr} {m : Str → Option Value}, s₁.heap.Ns b m → (hidT s₁.heap H).Ns b m := by
    rintro b m ⟨o, es, ep, e, d, r⟩
    exact ⟨o, es, ep, hidT_get e (free e d), d, r⟩
  have kinB : K.In (hidT s₁.heap H) := by
    intro b o e
    refine hidT_get (kin b o e) ?_
    by_cases q : H b = none
    · exact q
    · have eq := inA b q
      subst eq
      rw [outK q] at e
      exact nomatch e
  have limB : (hidT s₁.heap H).NoLimit := by
    obtain ⟨mc, h1, h2⟩ := nolim
    exact ⟨mc, names h1, h2⟩
  have md : L2.Mod K mg (hidT s₁.heap H) := L2.Mod.mk kinB (names glob) ⟨mb, names blt, same⟩ limB
  have env : Env0 P w K mg (hidT s₁.heap H) callerA [] s₁ H := by
    constructor
    · rfl
    · exact md
    · exact fun b o e => of_hidT e
    · exact Nat.le_of_eq (hidT_size _ _)
    · trivial
    · exact fun b hb => absurd (show b ∈ ([] : List Addr) from hb) List.not_mem_nil
    · exact ok
    · exact .of_eq still
  refine codeAny_mono ((F _ kinB (names glob)).run callerA [] s₁ H ⟨[.ref a], []⟩ [.ref a] [.ref a] _ _ room rfl env (bound s₁ (.ref a)) (.cons rfl .nil) asked) ?_
  intro res s' got
  match res, got with
  | .error err, got =>
    obtain ⟨_, _, _, _, _, _, _, _, _, _, _, _, z⟩ := got
    exact z.elim
  | .ok .next, got => exact got.elim
  | .ok .brk, got => exact got.elim
  | .ok .cont, got => exact got.elim
  | .ok (.ret u), got =>
    obtain ⟨v, H', os, bare, un, ok', rel, q⟩ := got
    have vt : v = V.bl true := q
    subst vt
    obtain rfl : u = Value.bool true := rel
    refine ⟨rfl, OldK.of_keep ?_, os, bare⟩
    intro b o at_b
    rcases only b with z | ⟨ob, xs, z⟩
    · exact un.keep b o at_b z List.not_mem_nil List.not_mem_nil
    · obtain ⟨e1, _⟩ := ok b _ z
      obtain ⟨e2, _⟩ := ok' b _ (un.frzs b ob _ z)
      rw [at_b] at e1
      injection e1 with e1
      subst e1
      exact e2
theorem law_callG (kin : K.In s₁.heap) (glob : s₁.heap.Ns mainGlobals mg) (blt : s₁.heap.Ns builtinsNs mb) (same : ∀ x : Str, x ≠ "__name__" → mb x = bootBuiltins x) (nolim : s₁.heap.NoLimit) (still : s₁.gens = #[])
    (ha : s₁.heap.get? a = some { cls := .type "list", data := .seq vs.toArray }) (hi : IntsAre vs ns) (hl : ns.length ≤ sizeLine) (room : Room k callerA)
    (F : ∀ base : Heap, K.In base → base.Ns mainGlobals mg → FnG P w K mg base k fa fd [x] sp) (bound : ∀ (s : Shared) (u : Value), BindsTo s fd ⟨[u], []⟩ [(x, u)])
    (asked : ∀ H : Hp, Only H → SqL K H a (ns.map V.int) → sp [.ref a] H (fun v _ => v = .bl true) fun _ _ _ => False) :
    codeAny (model P w) callerA (.call (.ref fa) ⟨[.ref a], []⟩) (fun r s' => r = .ok (.ret (.bool true)) ∧ OldK s₁.heap s'.heap ∧ s'.os = s₁.os ∧ AllBare s'.gens) s₁ := by
  have rel := vals_ints hi
  have len_eq := hi.length
  by_cases hk : K.lookup a = none
  · let H : Hp := fun b => if b = a then some (.frz { cls := .type "list", data := .seq vs.toArray } (.lst (ns.map V.int))) else none
    have at_a : H a = some (.frz { cls := .type "list", data := .seq vs.toArray } (.lst (ns.map V.int))) := if_pos rfl
    have off : ∀ b, b ≠ a → H b = none := fun b q => if_neg q
    have only : Only H := by
      intro b
      by_cases q : b = a
      · subst q
        exact Or.inr ⟨_, _, at_a⟩
      · exact Or.inl (off b q)
    refine law_from (H := H) kin glob blt same nolim still ha room F bound (asked H only (Or.inl (Or.inr ⟨_, at_a⟩))) only ?_ ?_ (fun _ => hk)
    · intro b u z
      by_cases q : b = a
      · subst q
        rw [at_a] at z
        injection z with z
        subst z
        exact ⟨ha, by rw [List.length_map]; exact hl, vs, _, rel, ha⟩
      · rw [off b q] at z
        exact nomatch z
    · intro b z
      by_cases q : b = a
      · exact q
      · exact absurd (off b q) z
  · obtain ⟨o, ho⟩ := Option.ne_none_iff_exists'.mp hk
    have e := kin a o ho
    rw [ha] at e
    injection e with e
    subst e
    have sq : SqL K (fun _ => none) a (ns.map V.int) := Or.inr ⟨_, vs.toArray, _, ho, rfl, rfl, rfl, by rw [List.size_toArray, len_eq]; exact hl, by simpa using rel⟩
    exact law_from (H := fun _ => none) kin glob blt same nolim still ha room F bound (asked _ (fun _ => Or.inl rfl) sq) (fun _ => Or.inl rfl) (fun b u z => nomatch z) (fun b z => absurd rfl z) (fun z => absurd rfl z)
end
theorem walk_ofG {l : PySem.W.OpenLaw} {n k : Nat} {q : Program} {loose : List Str} {XP : (Str → Option Value) → Heap → Prop} {YP : World → Heap → Prop} {d : DefRec} {K : Params → PySem.W.Frag} {sp : PySem.W.Frag → Sp} {x : Str}
    (hn : l.most = some n) (hn2 : n ≤ sizeLine) (hdf : d.params.defaults = []) (room : Room k callerA) (hY : ∀ (w : World) (h : Heap), YP w h → (K w.params).In h)
    (F : ∀ (w : World) (mg : Str → Option Value) (fa : Addr) (h : Heap), (K w.params).In h → h.Ns mainGlobals mg → mg d.name = some (.ref fa) →
      ∃ fd : FuncData, (∀ (s : Shared) (u : Value), BindsTo s fd ⟨[u], []⟩ [(x, u)]) ∧ ∀ base : Heap, (K w.params).In base → base.Ns mainGlobals mg → FnG l.prog w (K w.params) mg base k fa fd [x] (sp (K w.params)))
    (asked : ∀ (K : PySem.W.Frag) (H : Hp) (a : Addr) (ns : List Int), ns.length ≤ n → Only H → SqL K H a (ns.map V.int) → sp K [.ref a] H (fun v _ => v = .bl true) fun _ _ _ => False) :
    PySem.W.WalkO q loose XP YP l.row.toRowW d [] (fun f vs => PySem.call f vs) := by
  apply Att.attach_call hn hdf
  intro w s₀ s₁ mg mb fa o pm cd doc a vs ns G Y ho hd hcd hmg hobj hints hlen hg
  obtain ⟨fd, bound, hF⟩ := F w mg fa _ (hY w _ Y) G.T.g hmg
  exact law_callG (hY w _ Y) G.T.g G.T.b G.T.builtins G.T.nolimit hg hobj hints (Nat.le_trans hlen hn2) room hF bound fun H hO hS => asked _ H a ns hlen hO hS
end J

namespace J
open PySem PySem.Spec L2
/-! own steps, given to the walk under names of their own: jlen (an argument list's length), jh (what stands in the heap), jn (addresses differ), js (one step of a reading) -/
local macro_rules | `(tactic| walk_at "jn") => `(tactic| first
  | assumption | exact Ne.symm (by assumption)
  | (refine' free_ne (by assumption)) | (refine Ne.symm (free_ne (by assumption)))
  | (refine' ne_none2 (by assumption) ?hh; (case hh => walk_at "jh")) | (refine' Ne.symm (ne_none2 (by assumption) ?hh); (case hh => walk_at "jh")))
local macro_rules | `(tactic| walk_at "jh") => `(tactic| with_reducible first
  | assumption
  | exact upd_same
  | (refine' up_old (by assumption) ?hh; (case hh => walk_at "jh"))
  | (refine' up_ne (by walk_at "jn") ?hh; (case hh => walk_at "jh"))
  | (refine' same_at (by assumption) ?hh; (case hh => walk_at "jh"))
  | (refine' up_free (by walk_at "jn") ?hh; (case hh => walk_at "jh"))
  | (refine' free_of (by assumption))
  | (refine' same_free (by assumption) ?hh; (case hh => walk_at "jh"))
  | (refine' SqL.of ?hh; (case hh => walk_at "jh"))
  | (refine' SqT.of ?hh; (case hh => walk_at "jh"))
  | (refine' Same.seq (by assumption) ?hh; (case hh => walk_at "jh"))
  | (refine' Same.sqT (by assumption) ?hh; (case hh => walk_at "jh"))
  | (refine' sqL_upd (by walk_at "jn") ?hh; (case hh => walk_at "jh")))
local macro_rules | `(tactic| walk_at "jt") => `(tactic| with_reducible first
  | assumption
  | exact Th.int _ | exact Th.bl _ | exact Th.str _ | exact Th.non
  | (refine' Th.same (by assumption) ?hh; (case hh => walk_at "jt"))
  | (refine' Th.lst ?hh; (case hh => walk_at "jh")) | (refine' Th.tup ?hh; (case hh => walk_at "jh")) | (refine' Th.dK ?hh; (case hh => walk_at "jh")) | (refine' Th.dT ?hh; (case hh => walk_at "jh")) | (refine' Th.frz ?hh; (case hh => walk_at "jh")))
local macro_rules | `(tactic| walk_at "jw") => `(tactic| with_reducible first
  | assumption
  | (refine' WebAt.same (by assumption) ?hh; (case hh => walk_at "jw"))
  | exact WebAt.flip (by assumption))
local macro_rules | `(tactic| walk_at "jlc") => `(tactic| simp only [L2.wipe, List.set_cons_succ, List.set_cons_zero])
local macro_rules | `(tactic| walk_at "jsz") => `(tactic| first | assumption | decide | (simp only [List.length_cons, List.length_nil, List.length_map, List.length_append, List.length_replicate]; first | omega | decide | (refine Nat.le_trans (?_ : _ ≤ 100000) (by decide); omega)))
local macro_rules | `(tactic| walk_at "js") => `(tactic| first
  | (with_reducible first
    | refine s_seq ?_ | refine s_asg ?_ | refine s_ret ?_ | refine s_ifS ?_ | refine s_op ?_ | refine s_test ?_ | refine s_bl ?_ | refine s_chain ?_ | refine s_cb ?_ | refine s_cons ?_ | refine s_nil ?_ | refine s_c ?_ | refine s_I0 ?_ | refine s_U ?_ | refine s_drop ?_ | refine s_cl ?_ | refine s_un ?_
    | refine s_andV ?_ | refine s_orV ?_ | refine s_notV ?_ | refine s_and ?_ | refine s_or ?_ | refine s_not ?_ | refine s_if ?_ | refine s_blV ?_ | refine s_B ?_ | refine s_yes ?_ | refine s_no ?_ | refine s_next ?_ | refine s_brk ?_ | refine s_cont ?_ | refine s_retN ?_
    | refine s_fld ?_ | refine s_cm ?_ | refine s_mk ?_ | refine s_tup ?_ | refine s_lst ?_ | refine s_augS ?_ | refine s_sfld ?_ | refine s_sl ?_ | refine s_part ?_ | refine s_nopart ?_ | refine s_int ?_ | refine s_gcons ?_ | refine s_gnil ?_ | refine s_gsub ?_ | refine s_addI ?_ | refine s_eqI ?_ | refine s_neI ?_ | refine s_eqS ?_ | refine s_neS ?_ | refine s_lc ?_ | refine s_bm ?_ | refine s_bm0 ?_ | refine s_for ?_ | refine s_rng1 ?_ | refine s_rng2 ?_ | refine s_ilist ?_ | refine s_listRg ?_ | refine s_tryK ?_ | refine s_intB ?_ | refine s_intI ?_ | refine s_m1 ?_ | refine s_m1E ?_ | refine s_ienum ?_ | refine s_itup ?_ | refine s_lset ?_ | refine s_dnew ?_ | refine s_dnewT ?_ | refine s_dget ?_ | refine s_din ?_ | refine s_dput ?_ | refine s_min2 ?_ | refine s_max2 ?_ | refine s_isNN ?_ | refine s_isNr ?_ | refine s_isNi ?_ | refine s_notNN ?_ | refine s_notNr ?_ | refine s_notNi ?_)
  | ((with_reducible refine' s_var ?h ?_); (case h => rfl))
  | ((with_reducible refine' s_name (σ' := ?_) ?h ?_); rotate_left; (dsimp only [List.set_cons_succ, List.set_cons_zero]; exact rfl))
  | ((with_reducible refine' s_I ?h ?_); (case h => first | (show (0 : Int) < _; decide) | (exact ⟨by decide, by decide⟩) | (exact ⟨by omega, by omega, by decide⟩) | (show (0 : Int) ≤ _; omega)))
  | ((with_reducible refine' s_mulI ?h ?_); (case h => first | exact .inl ⟨by omega, by omega⟩ | exact .inr ⟨by omega, by omega⟩))
  | ((with_reducible refine' s_new ?h ?_); (case h => walk_at "jsz"))
  | ((with_reducible refine' s_fldE ?h ?c ?n ?l ?_); (case h => walk_at "jh"); (case c => assumption); (case n => assumption); (case l => first | assumption | rfl))
  | ((with_reducible refine' s_sfldE ?h ?c ?n ?l ?_); (case h => walk_at "jh"); (case c => assumption); (case n => assumption); (case l => first | assumption | (show _ < _; decide)))
  | ((with_reducible refine' s_cm1 ?h ?l ?_); (case h => walk_at "jh"); (case l => first | assumption | rfl))
  | ((with_reducible refine' s_is ?h ?t ?_); (case h => walk_at "jt"); (case t => decide))
  | ((with_reducible refine' s_rng1E ?h ?k ?_); (case h => first | decide | omega); (case k => first | decide | omega))
  | ((with_reducible refine' s_ilistE ?h ?_); (case h => walk_at "jh"))
  | ((with_reducible refine' s_ienumE ?h ?_); (case h => walk_at "jh"))
  | ((with_reducible refine' s_gtup ?h ?l ?_); (case h => walk_at "jh"); (case l => rfl))
  | ((with_reducible refine' s_itupE ?h ?_); (case h => walk_at "jh"))
  | ((with_reducible refine' s_tyL ?h ?_); (case h => walk_at "jh"))
  | ((with_reducible refine' u_is_among ?h ?_); (case h => walk_at "jt"))
  | ((with_reducible refine' u_many ?h ?_); (case h => walk_at "jw"))
  | ((with_reducible refine' u_points_in ?_))
  | ((with_reducible refine' s_then ?h ?_); (case h => rfl))
  | ((with_reducible refine' s_else ?h ?_); (case h => rfl)))
local macro_rules | `(tactic| walk_at "go") => `(tactic| repeat walk_at "js")
local macro_rules | `(tactic| walk_at "j0") => `(tactic| simp only [L2.cxOf, L2.start, List.map_cons, List.map_nil, List.length_cons, List.length_nil, Nat.reduceAdd, Nat.reduceSub, Nat.zero_add, Nat.sub_self, List.replicate_zero, List.replicate_succ, List.replicate, List.cons_append, List.nil_append, List.append_nil])

def topS (i : Nat) : Stmt := PySem.Challenge.pw_joinside_k01_webs.main.body.getD i (.Pass ⟨0, 0, 0, 0⟩)
abbrev st_is_among : Stmt := topS 13
abbrev st_points_in : Stmt := topS 14
abbrev st__law_mixed : Stmt := topS 17
abbrev st__law_number : Stmt := topS 18
abbrev st__law_kind : Stmt := topS 19
abbrev st__law_whole : Stmt := topS 20
abbrev st__law_is_point : Stmt := topS 21
abbrev st__law_due : Stmt := topS 22
abbrev st__law_call : Stmt := topS 23
abbrev st__law_said : Stmt := topS 24
abbrev st__law_done : Stmt := topS 25
abbrev st__law_beside_refused : Stmt := topS 26
abbrev st__law_looked : Stmt := topS 27
abbrev st__law_size_refused : Stmt := topS 28
abbrev st_law : Stmt := topS 29
abbrev st_Web_init : Stmt := inClass (topS 15) 0
abbrev st_Web_many : Stmt := inClass (topS 15) 1
abbrev st_Web_need_point : Stmt := inClass (topS 15) 2
abbrev st_Web_has : Stmt := inClass (topS 15) 3
abbrev st_Web_change : Stmt := inClass (topS 15) 4
abbrev st_Web_put : Stmt := inClass (topS 15) 5
abbrev st_Web_take : Stmt := inClass (topS 15) 6
abbrev st_Web_grow : Stmt := inClass (topS 15) 7
abbrev st_Web_beside : Stmt := inClass (topS 15) 8
abbrev st_Web_ties : Stmt := inClass (topS 15) 9
theorem sc_is_among : FnScope ["thing", "least", "most"] ["thing", "least", "most"] (defScope st_is_among) := ⟨rfl, rfl, rfl, by decide +kernel, rfl, by decide +kernel, by decide +kernel⟩
theorem sc_points_in : FnScope ["bits", "point"] ["bits"] (defScope st_points_in) := ⟨rfl, rfl, rfl, by decide +kernel, rfl, by decide +kernel, by decide +kernel⟩
theorem sc__law_mixed : FnScope ["_law_cell", "_law_k", "_law_number_here"] ["_law_cell", "_law_k"] (defScope st__law_mixed) := ⟨rfl, rfl, rfl, by decide +kernel, rfl, by decide +kernel, by decide +kernel⟩
theorem sc__law_number : FnScope ["_law_script", "_law_k", "_law_cell"] ["_law_script", "_law_k"] (defScope st__law_number) := ⟨rfl, rfl, rfl, by decide +kernel, rfl, by decide +kernel, by decide +kernel⟩
theorem sc__law_kind : FnScope ["_law_e", "_law_found"] ["_law_e"] (defScope st__law_kind) := ⟨rfl, rfl, rfl, by decide +kernel, rfl, by decide +kernel, by decide +kernel⟩
theorem sc__law_whole : FnScope ["_law_thing"] ["_law_thing"] (defScope st__law_whole) := ⟨rfl, rfl, rfl, by decide +kernel, rfl, by decide +kernel, by decide +kernel⟩
theorem sc__law_is_point : FnScope ["_law_own", "_law_thing"] ["_law_own", "_law_thing"] (defScope st__law_is_point) := ⟨rfl, rfl, rfl, by decide +kernel, rfl, by decide +kernel, by decide +kernel⟩
theorem sc__law_due : FnScope ["_law_own", "_law_word", "_law_one", "_law_other", "_law_is_there"] ["_law_own", "_law_word", "_law_one", "_law_other"] (defScope st__law_due) := ⟨rfl, rfl, rfl, by decide +kernel, rfl, by decide +kernel, by decide +kernel⟩
theorem sc__law_call : FnScope ["_law_web", "_law_word", "_law_one", "_law_other"] ["_law_web", "_law_word", "_law_one", "_law_other"] (defScope st__law_call) := ⟨rfl, rfl, rfl, by decide +kernel, rfl, by decide +kernel, by decide +kernel⟩
theorem sc__law_said : FnScope ["_law_web", "_law_word", "_law_one", "_law_other", "_law_error", "_law_told", "_law_e"] ["_law_web", "_law_word", "_law_one", "_law_other"] (defScope st__law_said) := ⟨rfl, rfl, rfl, by decide +kernel, rfl, by decide +kernel, by decide +kernel⟩
theorem sc__law_done : FnScope ["_law_web", "_law_own", "_law_word", "_law_one", "_law_other", "_law_due_here", "_law_kind_here", "_law_told", "_law_tie"] ["_law_web", "_law_own", "_law_word", "_law_one", "_law_other"] (defScope st__law_done) := ⟨rfl, rfl, rfl, by decide +kernel, rfl, by decide +kernel, by decide +kernel⟩
theorem sc__law_beside_refused : FnScope ["_law_web", "_law_thing", "_law_error", "_law_e"] ["_law_web", "_law_thing"] (defScope st__law_beside_refused) := ⟨rfl, rfl, rfl, by decide +kernel, rfl, by decide +kernel, by decide +kernel⟩
theorem sc__law_looked : FnScope ["_law_web", "_law_own", "_law_point", "_law_held", "_law_near", "_law_told", "_law_found", "_law_due_here", "_law_one", "_law_other"] ["_law_web", "_law_own", "_law_point", "_law_held"] (defScope st__law_looked) := ⟨rfl, rfl, rfl, by decide +kernel, rfl, by decide +kernel, by decide +kernel⟩
theorem sc__law_size_refused : FnScope ["_law_thing", "_law_error", "_law_e"] ["_law_thing"] (defScope st__law_size_refused) := ⟨rfl, rfl, rfl, by decide +kernel, rfl, by decide +kernel, by decide +kernel⟩
theorem sc_law : FnScope ["_law_script", "_law_webs", "_law_owns", "_law_k", "_law_number_here", "_law_many", "_law_held", "_law_cell", "_law_more", "_law_which", "_law_own", "_law_one", "_law_other", "_law_odd", "_law_pair", "_law_word", "_law_far"] ["_law_script"] (defScope st_law) := ⟨rfl, rfl, rfl, by decide +kernel, rfl, by decide +kernel, by decide +kernel⟩
theorem sc_Web_init : FnScope ["self", "many"] ["self", "many"] (defScope st_Web_init) := ⟨rfl, rfl, rfl, by decide +kernel, rfl, by decide +kernel, by decide +kernel⟩
theorem sc_Web_many : FnScope ["self"] ["self"] (defScope st_Web_many) := ⟨rfl, rfl, rfl, by decide +kernel, rfl, by decide +kernel, by decide +kernel⟩
theorem sc_Web_need_point : FnScope ["self", "point"] ["self", "point"] (defScope st_Web_need_point) := ⟨rfl, rfl, rfl, by decide +kernel, rfl, by decide +kernel, by decide +kernel⟩
theorem sc_Web_has : FnScope ["self", "one", "other"] ["self", "one", "other"] (defScope st_Web_has) := ⟨rfl, rfl, rfl, by decide +kernel, rfl, by decide +kernel, by decide +kernel⟩
theorem sc_Web_change : FnScope ["self", "one", "other"] ["self", "one", "other"] (defScope st_Web_change) := ⟨rfl, rfl, rfl, by decide +kernel, rfl, by decide +kernel, by decide +kernel⟩
theorem sc_Web_put : FnScope ["self", "one", "other"] ["self", "one", "other"] (defScope st_Web_put) := ⟨rfl, rfl, rfl, by decide +kernel, rfl, by decide +kernel, by decide +kernel⟩
theorem sc_Web_take : FnScope ["self", "one", "other"] ["self", "one", "other"] (defScope st_Web_take) := ⟨rfl, rfl, rfl, by decide +kernel, rfl, by decide +kernel, by decide +kernel⟩
theorem sc_Web_grow : FnScope ["self"] ["self"] (defScope st_Web_grow) := ⟨rfl, rfl, rfl, by decide +kernel, rfl, by decide +kernel, by decide +kernel⟩
theorem sc_Web_beside : FnScope ["self", "point"] ["self", "point"] (defScope st_Web_beside) := ⟨rfl, rfl, rfl, by decide +kernel, rfl, by decide +kernel, by decide +kernel⟩
theorem sc_Web_ties : FnScope ["self", "found", "one", "bits", "other"] ["self"] (defScope st_Web_ties) := ⟨rfl, rfl, rfl, by decide +kernel, rfl, by decide +kernel, by decide +kernel⟩
structure Txt (K : PySem.W.Frag) (mg : Str → Option Value) where
  a_is_among : Addr
  a_points_in : Addr
  a__law_mixed : Addr
  a__law_number : Addr
  a__law_kind : Addr
  a__law_whole : Addr
  a__law_is_point : Addr
  a__law_due : Addr
  a__law_call : Addr
  a__law_said : Addr
  a__law_done : Addr
  a__law_beside_refused : Addr
  a__law_looked : Addr
  a__law_size_refused : Addr
  a_law : Addr
  a_Web_init : Addr
  a_Web_many : Addr
  a_Web_need_point : Addr
  a_Web_has : Addr
  a_Web_change : Addr
  a_Web_put : Addr
  a_Web_take : Addr
  a_Web_grow : Addr
  a_Web_beside : Addr
  a_Web_ties : Addr
  c_Web : Addr
  c_JoinError : Addr
  c_BadSize : Addr
  c_BadPoint : Addr
  c_Twice : Addr
  c_NoTie : Addr
  c_TooMany : Addr
  c_NoTree : Addr
  c_BadTree : Addr
  c_BadText : Addr
  d_is_among : FuncData
  F_is_among : Fun K "is_among" "is_among" st_is_among a_is_among d_is_among
  b_is_among : Binds K d_is_among ["thing", "least", "most"] []
  g_is_among : mg "is_among" = some (.ref a_is_among)
  d_points_in : FuncData
  F_points_in : Fun K "points_in" "points_in" st_points_in a_points_in d_points_in
  b_points_in : Binds K d_points_in ["bits"] []
  g_points_in : mg "points_in" = some (.ref a_points_in)
  d__law_mixed : FuncData
  F__law_mixed : Fun K "_law_mixed" "_law_mixed" st__law_mixed a__law_mixed d__law_mixed
  b__law_mixed : Binds K d__law_mixed ["_law_cell", "_law_k"] []
  g__law_mixed : mg "_law_mixed" = some (.ref a__law_mixed)
  d__law_number : FuncData
  F__law_number : Fun K "_law_number" "_law_number" st__law_number a__law_number d__law_number
  b__law_number : Binds K d__law_number ["_law_script", "_law_k"] []
  g__law_number : mg "_law_number" = some (.ref a__law_number)
  d__law_kind : FuncData
  F__law_kind : Fun K "_law_kind" "_law_kind" st__law_kind a__law_kind d__law_kind
  b__law_kind : Binds K d__law_kind ["_law_e"] []
  g__law_kind : mg "_law_kind" = some (.ref a__law_kind)
  d__law_whole : FuncData
  F__law_whole : Fun K "_law_whole" "_law_whole" st__law_whole a__law_whole d__law_whole
  b__law_whole : Binds K d__law_whole ["_law_thing"] []
  g__law_whole : mg "_law_whole" = some (.ref a__law_whole)
  d__law_is_point : FuncData
  F__law_is_point : Fun K "_law_is_point" "_law_is_point" st__law_is_point a__law_is_point d__law_is_point
  b__law_is_point : Binds K d__law_is_point ["_law_own", "_law_thing"] []
  g__law_is_point : mg "_law_is_point" = some (.ref a__law_is_point)
  d__law_due : FuncData
  F__law_due : Fun K "_law_due" "_law_due" st__law_due a__law_due d__law_due
  b__law_due : Binds K d__law_due ["_law_own", "_law_word", "_law_one", "_law_other"] []
  g__law_due : mg "_law_due" = some (.ref a__law_due)
  d__law_call : FuncData
  F__law_call : Fun K "_law_call" "_law_call" st__law_call a__law_call d__law_call
  b__law_call : Binds K d__law_call ["_law_web", "_law_word", "_law_one", "_law_other"] []
  g__law_call : mg "_law_call" = some (.ref a__law_call)
  d__law_said : FuncData
  F__law_said : Fun K "_law_said" "_law_said" st__law_said a__law_said d__law_said
  b__law_said : Binds K d__law_said ["_law_web", "_law_word", "_law_one", "_law_other"] []
  g__law_said : mg "_law_said" = some (.ref a__law_said)
  d__law_done : FuncData
  F__law_done : Fun K "_law_done" "_law_done" st__law_done a__law_done d__law_done
  b__law_done : Binds K d__law_done ["_law_web", "_law_own", "_law_word", "_law_one", "_law_other"] []
  g__law_done : mg "_law_done" = some (.ref a__law_done)
  d__law_beside_refused : FuncData
  F__law_beside_refused : Fun K "_law_beside_refused" "_law_beside_refused" st__law_beside_refused a__law_beside_refused d__law_beside_refused
  b__law_beside_refused : Binds K d__law_beside_refused ["_law_web", "_law_thing"] []
  g__law_beside_refused : mg "_law_beside_refused" = some (.ref a__law_beside_refused)
  d__law_looked : FuncData
  F__law_looked : Fun K "_law_looked" "_law_looked" st__law_looked a__law_looked d__law_looked
  b__law_looked : Binds K d__law_looked ["_law_web", "_law_own", "_law_point", "_law_held"] []
  g__law_looked : mg "_law_looked" = some (.ref a__law_looked)
  d__law_size_refused : FuncData
  F__law_size_refused : Fun K "_law_size_refused" "_law_size_refused" st__law_size_refused a__law_size_refused d__law_size_refused
  b__law_size_refused : Binds K d__law_size_refused ["_law_thing"] []
  g__law_size_refused : mg "_law_size_refused" = some (.ref a__law_size_refused)
  d_law : FuncData
  F_law : Fun K "law" "law" st_law a_law d_law
  b_law : Binds K d_law ["_law_script"] []
  g_law : mg "law" = some (.ref a_law)
  d_Web_init : FuncData
  F_Web_init : Fun K "__init__" "Web.__init__" st_Web_init a_Web_init d_Web_init
  b_Web_init : Binds K d_Web_init ["self", "many"] []
  d_Web_many : FuncData
  F_Web_many : Fun K "many" "Web.many" st_Web_many a_Web_many d_Web_many
  b_Web_many : Binds K d_Web_many ["self"] []
  d_Web_need_point : FuncData
  F_Web_need_point : Fun K "need_point" "Web.need_point" st_Web_need_point a_Web_need_point d_Web_need_point
  b_Web_need_point : Binds K d_Web_need_point ["self", "point"] []
  d_Web_has : FuncData
  F_Web_has : Fun K "has" "Web.has" st_Web_has a_Web_has d_Web_has
  b_Web_has : Binds K d_Web_has ["self", "one", "other"] []
  d_Web_change : FuncData
  F_Web_change : Fun K "change" "Web.change" st_Web_change a_Web_change d_Web_change
  b_Web_change : Binds K d_Web_change ["self", "one", "other"] []
  d_Web_put : FuncData
  F_Web_put : Fun K "put" "Web.put" st_Web_put a_Web_put d_Web_put
  b_Web_put : Binds K d_Web_put ["self", "one", "other"] []
  d_Web_take : FuncData
  F_Web_take : Fun K "take" "Web.take" st_Web_take a_Web_take d_Web_take
  b_Web_take : Binds K d_Web_take ["self", "one", "other"] []
  d_Web_grow : FuncData
  F_Web_grow : Fun K "grow" "Web.grow" st_Web_grow a_Web_grow d_Web_grow
  b_Web_grow : Binds K d_Web_grow ["self"] []
  d_Web_beside : FuncData
  F_Web_beside : Fun K "beside" "Web.beside" st_Web_beside a_Web_beside d_Web_beside
  b_Web_beside : Binds K d_Web_beside ["self", "point"] []
  d_Web_ties : FuncData
  F_Web_ties : Fun K "ties" "Web.ties" st_Web_ties a_Web_ties d_Web_ties
  b_Web_ties : Binds K d_Web_ties ["self"] []
  cl_Web : Cls K c_Web
  g_Web : mg "Web" = some (.ref c_Web)
  mk_Web : Mk K c_Web a_Web_init
  n_Web_near : NoAttr K c_Web "near"
  m_Web_many : Meth K c_Web "many" a_Web_many
  m_Web_need_point : Meth K c_Web "need_point" a_Web_need_point
  m_Web_has : Meth K c_Web "has" a_Web_has
  m_Web_change : Meth K c_Web "change" a_Web_change
  m_Web_put : Meth K c_Web "put" a_Web_put
  m_Web_take : Meth K c_Web "take" a_Web_take
  m_Web_grow : Meth K c_Web "grow" a_Web_grow
  m_Web_beside : Meth K c_Web "beside" a_Web_beside
  m_Web_ties : Meth K c_Web "ties" a_Web_ties
  g_JoinError : mg "JoinError" = some (.ref c_JoinError)
  be_JoinError : PySem.W.subIn K (.ref c_JoinError) (.type "BaseException") = some true
  te_JoinError : PySem.W.typeIn K (.ref c_JoinError) = some (.type "type")
  is_JoinError : (PySem.W.clsIn K c_JoinError).isSome = true
  hx_JoinError : PySem.W.hasDictIn K c_JoinError = true
  sb_JoinError_JoinError : PySem.W.subIn K (.ref c_JoinError) (.ref c_JoinError) = some true
  g_BadSize : mg "BadSize" = some (.ref c_BadSize)
  be_BadSize : PySem.W.subIn K (.ref c_BadSize) (.type "BaseException") = some true
  te_BadSize : PySem.W.typeIn K (.ref c_BadSize) = some (.type "type")
  is_BadSize : (PySem.W.clsIn K c_BadSize).isSome = true
  hx_BadSize : PySem.W.hasDictIn K c_BadSize = true
  sb_BadSize_BadSize : PySem.W.subIn K (.ref c_BadSize) (.ref c_BadSize) = some true
  x_BadSize : PySem.W.excIn K c_BadSize [.type "ValueError", .type "Exception", .type "BaseException", .type "object"] "ValueError.__new__" = true
  kp_BadSize : PySem.W.keepIn K (.ref c_BadSize) = true
  ex_BadSize : ExcC K c_BadSize
  sb_BadSize_JoinError : PySem.W.subIn K (.ref c_BadSize) (.ref c_JoinError) = some true
  sb_BadSize_BadPoint : PySem.W.subIn K (.ref c_BadSize) (.ref c_BadPoint) = some false
  sb_BadSize_Twice : PySem.W.subIn K (.ref c_BadSize) (.ref c_Twice) = some false
  sb_BadSize_NoTie : PySem.W.subIn K (.ref c_BadSize) (.ref c_NoTie) = some false
  sb_BadSize_TooMany : PySem.W.subIn K (.ref c_BadSize) (.ref c_TooMany) = some false
  sb_BadSize_NoTree : PySem.W.subIn K (.ref c_BadSize) (.ref c_NoTree) = some false
  sb_BadSize_BadTree : PySem.W.subIn K (.ref c_BadSize) (.ref c_BadTree) = some false
  sb_BadSize_BadText : PySem.W.subIn K (.ref c_BadSize) (.ref c_BadText) = some false
  sv_BadSize : PySem.W.subIn K (.ref c_BadSize) (.type "ValueError") = some true
  g_BadPoint : mg "BadPoint" = some (.ref c_BadPoint)
  be_BadPoint : PySem.W.subIn K (.ref c_BadPoint) (.type "BaseException") = some true
  te_BadPoint : PySem.W.typeIn K (.ref c_BadPoint) = some (.type "type")
  is_BadPoint : (PySem.W.clsIn K c_BadPoint).isSome = true
  hx_BadPoint : PySem.W.hasDictIn K c_BadPoint = true
  sb_BadPoint_BadPoint : PySem.W.subIn K (.ref c_BadPoint) (.ref c_BadPoint) = some true
  x_BadPoint : PySem.W.excIn K c_BadPoint [.type "ValueError", .type "Exception", .type "BaseException", .type "object"] "ValueError.__new__" = true
  kp_BadPoint : PySem.W.keepIn K (.ref c_BadPoint) = true
  ex_BadPoint : ExcC K c_BadPoint
  sb_BadPoint_JoinError : PySem.W.subIn K (.ref c_BadPoint) (.ref c_JoinError) = some true
  sb_BadPoint_BadSize : PySem.W.subIn K (.ref c_BadPoint) (.ref c_BadSize) = some false
  sb_BadPoint_Twice : PySem.W.subIn K (.ref c_BadPoint) (.ref c_Twice) = some false
  sb_BadPoint_NoTie : PySem.W.subIn K (.ref c_BadPoint) (.ref c_NoTie) = some false
  sb_BadPoint_TooMany : PySem.W.subIn K (.ref c_BadPoint) (.ref c_TooMany) = some false
  sb_BadPoint_NoTree : PySem.W.subIn K (.ref c_BadPoint) (.ref c_NoTree) = some false
  sb_BadPoint_BadTree : PySem.W.subIn K (.ref c_BadPoint) (.ref c_BadTree) = some false
  sb_BadPoint_BadText : PySem.W.subIn K (.ref c_BadPoint) (.ref c_BadText) = some false
  sv_BadPoint : PySem.W.subIn K (.ref c_BadPoint) (.type "ValueError") = some true
  g_Twice : mg "Twice" = some (.ref c_Twice)
  be_Twice : PySem.W.subIn K (.ref c_Twice) (.type "BaseException") = some true
  te_Twice : PySem.W.typeIn K (.ref c_Twice) = some (.type "type")
  is_Twice : (PySem.W.clsIn K c_Twice).isSome = true
  hx_Twice : PySem.W.hasDictIn K c_Twice = true
  sb_Twice_Twice : PySem.W.subIn K (.ref c_Twice) (.ref c_Twice) = some true
  x_Twice : PySem.W.excIn K c_Twice [.type "ValueError", .type "Exception", .type "BaseException", .type "object"] "ValueError.__new__" = true
  kp_Twice : PySem.W.keepIn K (.ref c_Twice) = true
  ex_Twice : ExcC K c_Twice
  sb_Twice_JoinError : PySem.W.subIn K (.ref c_Twice) (.ref c_JoinError) = some true
  sb_Twice_BadSize : PySem.W.subIn K (.ref c_Twice) (.ref c_BadSize) = some false
  sb_Twice_BadPoint : PySem.W.subIn K (.ref c_Twice) (.ref c_BadPoint) = some false
  sb_Twice_NoTie : PySem.W.subIn K (.ref c_Twice) (.ref c_NoTie) = some false
  sb_Twice_TooMany : PySem.W.subIn K (.ref c_Twice) (.ref c_TooMany) = some false
  sb_Twice_NoTree : PySem.W.subIn K (.ref c_Twice) (.ref c_NoTree) = some false
  sb_Twice_BadTree : PySem.W.subIn K (.ref c_Twice) (.ref c_BadTree) = some false
  sb_Twice_BadText : PySem.W.subIn K (.ref c_Twice) (.ref c_BadText) = some false
  sv_Twice : PySem.W.subIn K (.ref c_Twice) (.type "ValueError") = some true
  g_NoTie : mg "NoTie" = some (.ref c_NoTie)
  be_NoTie : PySem.W.subIn K (.ref c_NoTie) (.type "BaseException") = some true
  te_NoTie : PySem.W.typeIn K (.ref c_NoTie) = some (.type "type")
  is_NoTie : (PySem.W.clsIn K c_NoTie).isSome = true
  hx_NoTie : PySem.W.hasDictIn K c_NoTie = true
  sb_NoTie_NoTie : PySem.W.subIn K (.ref c_NoTie) (.ref c_NoTie) = some true
  x_NoTie : PySem.W.excIn K c_NoTie [.type "ValueError", .type "Exception", .type "BaseException", .type "object"] "ValueError.__new__" = true
  kp_NoTie : PySem.W.keepIn K (.ref c_NoTie) = true
  ex_NoTie : ExcC K c_NoTie
  sb_NoTie_JoinError : PySem.W.subIn K (.ref c_NoTie) (.ref c_JoinError) = some true
  sb_NoTie_BadSize : PySem.W.subIn K (.ref c_NoTie) (.ref c_BadSize) = some false
  sb_NoTie_BadPoint : PySem.W.subIn K (.ref c_NoTie) (.ref c_BadPoint) = some false
  sb_NoTie_Twice : PySem.W.subIn K (.ref c_NoTie) (.ref c_Twice) = some false
  sb_NoTie_TooMany : PySem.W.subIn K (.ref c_NoTie) (.ref c_TooMany) = some false
  sb_NoTie_NoTree : PySem.W.subIn K (.ref c_NoTie) (.ref c_NoTree) = some false
  sb_NoTie_BadTree : PySem.W.subIn K (.ref c_NoTie) (.ref c_BadTree) = some false
  sb_NoTie_BadText : PySem.W.subIn K (.ref c_NoTie) (.ref c_BadText) = some false
  sv_NoTie : PySem.W.subIn K (.ref c_NoTie) (.type "ValueError") = some true
  g_TooMany : mg "TooMany" = some (.ref c_TooMany)
  be_TooMany : PySem.W.subIn K (.ref c_TooMany) (.type "BaseException") = some true
  te_TooMany : PySem.W.typeIn K (.ref c_TooMany) = some (.type "type")
  is_TooMany : (PySem.W.clsIn K c_TooMany).isSome = true
  hx_TooMany : PySem.W.hasDictIn K c_TooMany = true
  sb_TooMany_TooMany : PySem.W.subIn K (.ref c_TooMany) (.ref c_TooMany) = some true
  x_TooMany : PySem.W.excIn K c_TooMany [.type "ValueError", .type "Exception", .type "BaseException", .type "object"] "ValueError.__new__" = true
  kp_TooMany : PySem.W.keepIn K (.ref c_TooMany) = true
  ex_TooMany : ExcC K c_TooMany
  sb_TooMany_JoinError : PySem.W.subIn K (.ref c_TooMany) (.ref c_JoinError) = some true
  sb_TooMany_BadSize : PySem.W.subIn K (.ref c_TooMany) (.ref c_BadSize) = some false
  sb_TooMany_BadPoint : PySem.W.subIn K (.ref c_TooMany) (.ref c_BadPoint) = some false
  sb_TooMany_Twice : PySem.W.subIn K (.ref c_TooMany) (.ref c_Twice) = some false
  sb_TooMany_NoTie : PySem.W.subIn K (.ref c_TooMany) (.ref c_NoTie) = some false
  sb_TooMany_NoTree : PySem.W.subIn K (.ref c_TooMany) (.ref c_NoTree) = some false
  sb_TooMany_BadTree : PySem.W.subIn K (.ref c_TooMany) (.ref c_BadTree) = some false
  sb_TooMany_BadText : PySem.W.subIn K (.ref c_TooMany) (.ref c_BadText) = some false
  sv_TooMany : PySem.W.subIn K (.ref c_TooMany) (.type "ValueError") = some true
  g_NoTree : mg "NoTree" = some (.ref c_NoTree)
  be_NoTree : PySem.W.subIn K (.ref c_NoTree) (.type "BaseException") = some true
  te_NoTree : PySem.W.typeIn K (.ref c_NoTree) = some (.type "type")
  is_NoTree : (PySem.W.clsIn K c_NoTree).isSome = true
  hx_NoTree : PySem.W.hasDictIn K c_NoTree = true
  sb_NoTree_NoTree : PySem.W.subIn K (.ref c_NoTree) (.ref c_NoTree) = some true
  g_BadTree : mg "BadTree" = some (.ref c_BadTree)
  be_BadTree : PySem.W.subIn K (.ref c_BadTree) (.type "BaseException") = some true
  te_BadTree : PySem.W.typeIn K (.ref c_BadTree) = some (.type "type")
  is_BadTree : (PySem.W.clsIn K c_BadTree).isSome = true
  hx_BadTree : PySem.W.hasDictIn K c_BadTree = true
  sb_BadTree_BadTree : PySem.W.subIn K (.ref c_BadTree) (.ref c_BadTree) = some true
  g_BadText : mg "BadText" = some (.ref c_BadText)
  be_BadText : PySem.W.subIn K (.ref c_BadText) (.type "BaseException") = some true
  te_BadText : PySem.W.typeIn K (.ref c_BadText) = some (.type "type")
  is_BadText : (PySem.W.clsIn K c_BadText).isSome = true
  hx_BadText : PySem.W.hasDictIn K c_BadText = true
  sb_BadText_BadText : PySem.W.subIn K (.ref c_BadText) (.ref c_BadText) = some true
  t_MOST_POINTS : Tok
  g_MOST_POINTS : mg "MOST_POINTS" = some (.int 30 t_MOST_POINTS)
  z_ValueError : mg "ValueError" = none
  z_bool : mg "bool" = none
  z_enumerate : mg "enumerate" = none
  z_int : mg "int" = none
  z_isinstance : mg "isinstance" = none
  z_len : mg "len" = none
  z_list : mg "list" = none
  z_max : mg "max" = none
  z_min : mg "min" = none
  z_range : mg "range" = none
  z_repr : mg "repr" = none
  z_sorted : mg "sorted" = none
  z_zip : mg "zip" = none
theorem exc_BadSize {K : PySem.W.Frag} {mg : Str → Option Value} (T : Txt K mg) {H : Hp} {a : Addr} (e : H a = some (ExR (.ref T.c_BadSize) none a)) : ExcAt K H a [T.c_BadSize, T.c_BadPoint, T.c_Twice, T.c_NoTie, T.c_TooMany, T.c_NoTree, T.c_BadTree, T.c_BadText] [true, false, false, false, false, false, false, false] := .of e T.ex_BadSize ⟨kit_own T.is_BadSize T.te_BadSize T.sb_BadSize_BadSize T.sb_BadSize_BadSize, kit_own T.is_BadPoint T.te_BadPoint T.sb_BadPoint_BadPoint T.sb_BadSize_BadPoint, kit_own T.is_Twice T.te_Twice T.sb_Twice_Twice T.sb_BadSize_Twice, kit_own T.is_NoTie T.te_NoTie T.sb_NoTie_NoTie T.sb_BadSize_NoTie, kit_own T.is_TooMany T.te_TooMany T.sb_TooMany_TooMany T.sb_BadSize_TooMany, kit_own T.is_NoTree T.te_NoTree T.sb_NoTree_NoTree T.sb_BadSize_NoTree, kit_own T.is_BadTree T.te_BadTree T.sb_BadTree_BadTree T.sb_BadSize_BadTree, kit_own T.is_BadText T.te_BadText T.sb_BadText_BadText T.sb_BadSize_BadText, trivial⟩ (kit_val T.sv_BadSize)
theorem exc_BadPoint {K : PySem.W.Frag} {mg : Str → Option Value} (T : Txt K mg) {H : Hp} {a : Addr} (e : H a = some (ExR (.ref T.c_BadPoint) none a)) : ExcAt K H a [T.c_BadSize, T.c_BadPoint, T.c_Twice, T.c_NoTie, T.c_TooMany, T.c_NoTree, T.c_BadTree, T.c_BadText] [false, true, false, false, false, false, false, false] := .of e T.ex_BadPoint ⟨kit_own T.is_BadSize T.te_BadSize T.sb_BadSize_BadSize T.sb_BadPoint_BadSize, kit_own T.is_BadPoint T.te_BadPoint T.sb_BadPoint_BadPoint T.sb_BadPoint_BadPoint, kit_own T.is_Twice T.te_Twice T.sb_Twice_Twice T.sb_BadPoint_Twice, kit_own T.is_NoTie T.te_NoTie T.sb_NoTie_NoTie T.sb_BadPoint_NoTie, kit_own T.is_TooMany T.te_TooMany T.sb_TooMany_TooMany T.sb_BadPoint_TooMany, kit_own T.is_NoTree T.te_NoTree T.sb_NoTree_NoTree T.sb_BadPoint_NoTree, kit_own T.is_BadTree T.te_BadTree T.sb_BadTree_BadTree T.sb_BadPoint_BadTree, kit_own T.is_BadText T.te_BadText T.sb_BadText_BadText T.sb_BadPoint_BadText, trivial⟩ (kit_val T.sv_BadPoint)
theorem exc_Twice {K : PySem.W.Frag} {mg : Str → Option Value} (T : Txt K mg) {H : Hp} {a : Addr} (e : H a = some (ExR (.ref T.c_Twice) none a)) : ExcAt K H a [T.c_BadSize, T.c_BadPoint, T.c_Twice, T.c_NoTie, T.c_TooMany, T.c_NoTree, T.c_BadTree, T.c_BadText] [false, false, true, false, false, false, false, false] := .of e T.ex_Twice ⟨kit_own T.is_BadSize T.te_BadSize T.sb_BadSize_BadSize T.sb_Twice_BadSize, kit_own T.is_BadPoint T.te_BadPoint T.sb_BadPoint_BadPoint T.sb_Twice_BadPoint, kit_own T.is_Twice T.te_Twice T.sb_Twice_Twice T.sb_Twice_Twice, kit_own T.is_NoTie T.te_NoTie T.sb_NoTie_NoTie T.sb_Twice_NoTie, kit_own T.is_TooMany T.te_TooMany T.sb_TooMany_TooMany T.sb_Twice_TooMany, kit_own T.is_NoTree T.te_NoTree T.sb_NoTree_NoTree T.sb_Twice_NoTree, kit_own T.is_BadTree T.te_BadTree T.sb_BadTree_BadTree T.sb_Twice_BadTree, kit_own T.is_BadText T.te_BadText T.sb_BadText_BadText T.sb_Twice_BadText, trivial⟩ (kit_val T.sv_Twice)
theorem exc_NoTie {K : PySem.W.Frag} {mg : Str → Option Value} (T : Txt K mg) {H : Hp} {a : Addr} (e : H a = some (ExR (.ref T.c_NoTie) none a)) : ExcAt K H a [T.c_BadSize, T.c_BadPoint, T.c_Twice, T.c_NoTie, T.c_TooMany, T.c_NoTree, T.c_BadTree, T.c_BadText] [false, false, false, true, false, false, false, false] := .of e T.ex_NoTie ⟨kit_own T.is_BadSize T.te_BadSize T.sb_BadSize_BadSize T.sb_NoTie_BadSize, kit_own T.is_BadPoint T.te_BadPoint T.sb_BadPoint_BadPoint T.sb_NoTie_BadPoint, kit_own T.is_Twice T.te_Twice T.sb_Twice_Twice T.sb_NoTie_Twice, kit_own T.is_NoTie T.te_NoTie T.sb_NoTie_NoTie T.sb_NoTie_NoTie, kit_own T.is_TooMany T.te_TooMany T.sb_TooMany_TooMany T.sb_NoTie_TooMany, kit_own T.is_NoTree T.te_NoTree T.sb_NoTree_NoTree T.sb_NoTie_NoTree, kit_own T.is_BadTree T.te_BadTree T.sb_BadTree_BadTree T.sb_NoTie_BadTree, kit_own T.is_BadText T.te_BadText T.sb_BadText_BadText T.sb_NoTie_BadText, trivial⟩ (kit_val T.sv_NoTie)
theorem exc_TooMany {K : PySem.W.Frag} {mg : Str → Option Value} (T : Txt K mg) {H : Hp} {a : Addr} (e : H a = some (ExR (.ref T.c_TooMany) none a)) : ExcAt K H a [T.c_BadSize, T.c_BadPoint, T.c_Twice, T.c_NoTie, T.c_TooMany, T.c_NoTree, T.c_BadTree, T.c_BadText] [false, false, false, false, true, false, false, false] := .of e T.ex_TooMany ⟨kit_own T.is_BadSize T.te_BadSize T.sb_BadSize_BadSize T.sb_TooMany_BadSize, kit_own T.is_BadPoint T.te_BadPoint T.sb_BadPoint_BadPoint T.sb_TooMany_BadPoint, kit_own T.is_Twice T.te_Twice T.sb_Twice_Twice T.sb_TooMany_Twice, kit_own T.is_NoTie T.te_NoTie T.sb_NoTie_NoTie T.sb_TooMany_NoTie, kit_own T.is_TooMany T.te_TooMany T.sb_TooMany_TooMany T.sb_TooMany_TooMany, kit_own T.is_NoTree T.te_NoTree T.sb_NoTree_NoTree T.sb_TooMany_NoTree, kit_own T.is_BadTree T.te_BadTree T.sb_BadTree_BadTree T.sb_TooMany_BadTree, kit_own T.is_BadText T.te_BadText T.sb_BadText_BadText T.sb_TooMany_BadText, trivial⟩ (kit_val T.sv_TooMany)
section
variable {P : Program} {w : World} {K : PySem.W.Frag} {mg : Str → Option Value} {base : Heap}

-- is_among
theorem ok_is_among (T : Txt K mg) : FnG P w K mg base 1 T.a_is_among T.d_is_among ["thing", "least", "most"] (sp_is_among K) := by
  refine okG T.F_is_among sc_is_among (fun vs H Q E h => ?_) (fun cdv A outer s H vs Q E hr hG h => ?_)
  · (first | (obtain ⟨rfl, _⟩ := h; rfl) | (obtain ⟨_, rfl, _⟩ := h; rfl) | (obtain ⟨_, _, rfl, _⟩ := h; rfl) | (obtain ⟨_, _, _, rfl, _⟩ := h; rfl) | (obtain ⟨_, _, _, _, rfl, _⟩ := h; rfl) | (obtain ⟨_, _, _, _, _, rfl, _⟩ := h; rfl) | (obtain ⟨_, _, _, _, _, _, rfl, _⟩ := h; rfl) | (obtain ⟨_, _, _, _, _, _, _, rfl, _⟩ := h; rfl) | (obtain ⟨_, _, _, _, _, _, _, _, rfl, _⟩ := h; rfl) | (obtain ⟨_, _, _, _, _, _, _, _, _, rfl, _⟩ := h; rfl) | (obtain ⟨_, _, _, _, _, _, _, _, _, _, rfl, _⟩ := h; rfl) | (obtain ⟨_, _, _, _, _, _, _, _, _, _, _, rfl, _⟩ := h; rfl) | (obtain ⟨_, _, _, _, _, _, _, _, _, _, _, _, rfl, _⟩ := h; rfl))
  · have sc := sc_is_among
    have hu := hr.units
    have hu1 := hu_of hr
    have hu65 := room65 hr
    have hu2 := room200 hr
    obtain ⟨x, lo, hi, n, rfl, hx, k⟩ := h
    refine ⟨_, (pss_one (ps_ret (pe_and (pe_callB (kIs (K := K)) (by rfl) T.z_isinstance bt_isinstance (pa_cons (pv 0) (pa_cons (pe_bltn (v := .ty "int") (by rfl) T.z_int bt_int rfl) pa_nil))) (pe_and (pe_not (pe_callB (kIs (K := K)) (by rfl) T.z_isinstance bt_isinstance (pa_cons (pv 0) (pa_cons (pe_bltn (v := .ty "bool") (by rfl) T.z_bool bt_bool rfl) pa_nil)))) (pe_one (pe_chain op_le op_le (pv 1) (pv 0) (pv 2))))))), ?_⟩
    walk_at "j0"
    walk_at "go"
    cases hx
    case int i =>
      walk_at "go"
      refine s_dec (fun h => ?_) (fun h => ?_)
      · walk_at "go"
        have e : among (.int i) lo hi = decide (i ≤ hi) := by simp [among, h]
        rw [e] at k
        exact k
      · have e : among (.int i) lo hi = false := by simp [among, h]
        rw [e] at k
        exact k
    all_goals (walk_at "go"; exact k)
-- Web_init
theorem ok_Web_init (T : Txt K mg) : FnG P w K mg base 2 T.a_Web_init T.d_Web_init ["self", "many"] (sp_Web_init K T.c_Web T.c_BadSize) := by
  refine okG T.F_Web_init sc_Web_init (fun vs H Q E h => ?_) (fun cdv A outer s H vs Q E hr hG h => ?_)
  · (first | (obtain ⟨rfl, _⟩ := h; rfl) | (obtain ⟨_, rfl, _⟩ := h; rfl) | (obtain ⟨_, _, rfl, _⟩ := h; rfl) | (obtain ⟨_, _, _, rfl, _⟩ := h; rfl) | (obtain ⟨_, _, _, _, rfl, _⟩ := h; rfl) | (obtain ⟨_, _, _, _, _, rfl, _⟩ := h; rfl) | (obtain ⟨_, _, _, _, _, _, rfl, _⟩ := h; rfl) | (obtain ⟨_, _, _, _, _, _, _, rfl, _⟩ := h; rfl) | (obtain ⟨_, _, _, _, _, _, _, _, rfl, _⟩ := h; rfl) | (obtain ⟨_, _, _, _, _, _, _, _, _, rfl, _⟩ := h; rfl) | (obtain ⟨_, _, _, _, _, _, _, _, _, _, rfl, _⟩ := h; rfl) | (obtain ⟨_, _, _, _, _, _, _, _, _, _, _, rfl, _⟩ := h; rfl) | (obtain ⟨_, _, _, _, _, _, _, _, _, _, _, _, rfl, _⟩ := h; rfl))
  · have sc := sc_Web_init
    have hu := hr.units
    have hu1 := hu_of hr
    have hu65 := room65 hr
    have hu2 := room200 hr
    obtain ⟨p, dx, x, n, rfl, ob, hx, k, e⟩ := h
    have no := T.n_Web_near
    have cl := T.cl_Web
    refine ⟨_, (pss_cons (ps_if (pt_not (pt_val (pe_cl (ok_is_among T) (hr.mono (by decide)) hG (by rfl) T.g_is_among T.F_is_among.kp T.b_is_among (takes_of rfl rfl rfl rfl) (pa_cons (pv 1) (pa_cons pe_int (pa_cons (pe_glob (v := .int 30) (by rfl) T.g_MOST_POINTS ⟨_, rfl⟩) pa_nil)))))) (pss_one (ps_raise rfl (takes_of rfl rfl rfl rfl) (pmk_own PySem.F.excBase_ValueError T.x_BadSize T.g_BadSize T.kp_BadSize (raises_own T.be_BadSize T.te_BadSize) rfl))) pss_nil)
    (pss_one (kSet (K := K) (pv 0) (pe_op (kMul (K := K)) (pe_lst (pa_cons pe_int pa_nil)) (pv 1)) rfl))), ?_⟩
    walk_at "j0"
    walk_at "go"
    refine s_ite (fun b => ?_) (fun b => ?_)
    · exact e (by simpa using b)
    · have b' : among x 1 30 = true := by simpa using b
      have hi : ∃ i : Nat, x = .int i ∧ 1 ≤ i ∧ i ≤ 30 := by
        cases x with
        | int i =>
          rw [among_int, Bool.and_eq_true, decide_eq_true_eq, decide_eq_true_eq] at b'
          exact ⟨i.toNat, by congr 1; omega, by omega, by omega⟩
        | _ => cases b'
      obtain ⟨i, rfl, h1, h2⟩ := hi
      walk_at "go"
      intro l0 hl0
      walk_at "go"
      refine s_mulL upd_same (by omega) (by omega) (Nat.le_trans (m := 30) (by simp only [List.length_cons, List.length_nil, Int.toNat_natCast]; omega) (by decide)) ?_
      intro l hl
      rw [Int.toNat_natCast, msk_rep]
      walk_at "go"
      have np : p ≠ l := ne_of_none (up_old hl0 ob) hl
      have n0 : p ≠ l0 := ne_of_none ob hl0
      refine k i rfl h1 h2 l _ (free_of hl) (fun b o nb eb => ?_) ⟨⟨dx, upd_same⟩, ?_, by simpa using h2⟩
      · exact up_ne nb (up_old hl (up_old hl0 eb))
      · exact up_ne np.symm upd_same
-- Web_need_point
theorem ok_Web_need_point (T : Txt K mg) : FnG P w K mg base 2 T.a_Web_need_point T.d_Web_need_point ["self", "point"] (sp_Web_need_point K T.c_Web T.c_BadPoint) := by
  refine okG T.F_Web_need_point sc_Web_need_point (fun vs H Q E h => ?_) (fun cdv A outer s H vs Q E hr hG h => ?_)
  · (first | (obtain ⟨rfl, _⟩ := h; rfl) | (obtain ⟨_, rfl, _⟩ := h; rfl) | (obtain ⟨_, _, rfl, _⟩ := h; rfl) | (obtain ⟨_, _, _, rfl, _⟩ := h; rfl) | (obtain ⟨_, _, _, _, rfl, _⟩ := h; rfl) | (obtain ⟨_, _, _, _, _, rfl, _⟩ := h; rfl) | (obtain ⟨_, _, _, _, _, _, rfl, _⟩ := h; rfl) | (obtain ⟨_, _, _, _, _, _, _, rfl, _⟩ := h; rfl) | (obtain ⟨_, _, _, _, _, _, _, _, rfl, _⟩ := h; rfl) | (obtain ⟨_, _, _, _, _, _, _, _, _, rfl, _⟩ := h; rfl) | (obtain ⟨_, _, _, _, _, _, _, _, _, _, rfl, _⟩ := h; rfl) | (obtain ⟨_, _, _, _, _, _, _, _, _, _, _, rfl, _⟩ := h; rfl) | (obtain ⟨_, _, _, _, _, _, _, _, _, _, _, _, rfl, _⟩ := h; rfl))
  · have sc := sc_Web_need_point
    have hu := hr.units
    have hu1 := hu_of hr
    have hu65 := room65 hr
    have hu2 := room200 hr
    obtain ⟨p, l, ms, x, n, rfl, hW, hx, k, e⟩ := h
    obtain ⟨dx, ob⟩ := hW.ob
    have li := hW.li
    have sz := hW.sz
    have no := T.n_Web_near
    have cl := T.cl_Web
    refine ⟨_, (pss_one (ps_if (pt_not (pt_val (pe_cl (ok_is_among T) (hr.mono (by decide)) hG (by rfl) T.g_is_among T.F_is_among.kp T.b_is_among (takes_of rfl rfl rfl rfl) (pa_cons (pv 1) (pa_cons pe_int (pa_cons (pe_op op_sub (pe_callB (kLen (K := K)) (by rfl) T.z_len bt_len (pa_cons (kFld (K := K) (pv 0)) pa_nil)) pe_int) pa_nil)))))) (pss_one (ps_raise rfl (takes_of rfl rfl rfl rfl) (pmk_own PySem.F.excBase_ValueError T.x_BadPoint T.g_BadPoint T.kp_BadPoint (raises_own T.be_BadPoint T.te_BadPoint) rfl))) pss_nil)), ?_⟩
    walk_at "j0"
    walk_at "go"
    refine s_lenL (.inl (SqL.of li)) ?_
    rw [msk_length]
    walk_at "go"
    refine s_ite (fun b => ?_) (fun b => ?_)
    · exact e (by simpa using b)
    · obtain ⟨i, rfl, hi⟩ := among_nat (by simpa using b)
      exact k i rfl hi
theorem me_Web_need_point (T : Txt K mg) : MethG P w K mg base 2 T.c_Web "need_point" (sp_Web_need_point K T.c_Web T.c_BadPoint) := ⟨T.cl_Web, _, _, _, T.m_Web_need_point, ok_Web_need_point T, T.b_Web_need_point⟩
-- points_in
theorem ok_points_in (T : Txt K mg) : FnG P w K mg base 1 T.a_points_in T.d_points_in ["bits"] sp_points_in := by
  refine okG T.F_points_in sc_points_in (fun vs H Q E h => ?_) (fun cdv A outer s H vs Q E hr hG h => ?_)
  · (first | (obtain ⟨rfl, _⟩ := h; rfl) | (obtain ⟨_, rfl, _⟩ := h; rfl) | (obtain ⟨_, _, rfl, _⟩ := h; rfl) | (obtain ⟨_, _, _, rfl, _⟩ := h; rfl) | (obtain ⟨_, _, _, _, rfl, _⟩ := h; rfl) | (obtain ⟨_, _, _, _, _, rfl, _⟩ := h; rfl) | (obtain ⟨_, _, _, _, _, _, rfl, _⟩ := h; rfl) | (obtain ⟨_, _, _, _, _, _, _, rfl, _⟩ := h; rfl) | (obtain ⟨_, _, _, _, _, _, _, _, rfl, _⟩ := h; rfl) | (obtain ⟨_, _, _, _, _, _, _, _, _, rfl, _⟩ := h; rfl) | (obtain ⟨_, _, _, _, _, _, _, _, _, _, rfl, _⟩ := h; rfl) | (obtain ⟨_, _, _, _, _, _, _, _, _, _, _, rfl, _⟩ := h; rfl) | (obtain ⟨_, _, _, _, _, _, _, _, _, _, _, _, rfl, _⟩ := h; rfl))
  · have sc := sc_points_in
    have hu := hr.units
    have hu1 := hu_of hr
    have hu65 := room65 hr
    have hu2 := room200 hr
    obtain ⟨m, rfl, k⟩ := h
    refine ⟨_, (pss_one (ps_ret (pe_lc (own := [("point", 1)]) rfl sc.nd (pi_range1 (by rfl) T.z_range (pa_cons (pe_glob (v := .int 30) (by rfl) T.g_MOST_POINTS ⟨_, rfl⟩) pa_nil)) (blkOk_by (own := [("point", 1)]) (N := ["bits", "point"]) (sc := defScope st_points_in) (by decide +kernel)) (fun _ _ _ _ _ => (pg_name (i := 1) sc.nd rfl (Or.inl rfl))) (fun _ _ _ _ _ => (pts_one (pt_cmpR (kEq (K := K) hu) (pe_op op_and (pe_op op_shr (pv 0) (pv 1)) pe_int) pe_int (nomark _)))) (fun _ _ _ _ _ => (pv 1))))), ?_⟩
    walk_at "j0"
    walk_at "go"
    intro D hD
    refine lc_range (lo := 0) (n := 30) (fun i H' => H' = upd H D (.lst ((List.range i).filterMap fun i => if m.testBit i = true then some (V.int (i : Int)) else none))) rfl (fun i H' hi e => ?_) (fun H' e => ?_)
    · subst e
      rw [Int.zero_add]
      walk_at "jlc"
      walk_at "go"
      refine ⟨rfl, ?_⟩
      walk_at "go"
      rw [bit_dec]
      refine s_ite (fun b => ?_) (fun b => ?_)
      · walk_at "go"
        exact lc_yes (by omega) (by simp [b])
      · exact lc_no (by simp [b])
    · subst e
      rw [← pts_fm]
      exact k D hD
-- Web_beside
theorem ok_Web_beside (T : Txt K mg) : FnG P w K mg base 3 T.a_Web_beside T.d_Web_beside ["self", "point"] (sp_Web_beside K T.c_Web T.c_BadPoint) := by
  refine okG T.F_Web_beside sc_Web_beside (fun vs H Q E h => ?_) (fun cdv A outer s H vs Q E hr hG h => ?_)
  · (first | (obtain ⟨rfl, _⟩ := h; rfl) | (obtain ⟨_, rfl, _⟩ := h; rfl) | (obtain ⟨_, _, rfl, _⟩ := h; rfl) | (obtain ⟨_, _, _, rfl, _⟩ := h; rfl) | (obtain ⟨_, _, _, _, rfl, _⟩ := h; rfl) | (obtain ⟨_, _, _, _, _, rfl, _⟩ := h; rfl) | (obtain ⟨_, _, _, _, _, _, rfl, _⟩ := h; rfl) | (obtain ⟨_, _, _, _, _, _, _, rfl, _⟩ := h; rfl) | (obtain ⟨_, _, _, _, _, _, _, _, rfl, _⟩ := h; rfl) | (obtain ⟨_, _, _, _, _, _, _, _, _, rfl, _⟩ := h; rfl) | (obtain ⟨_, _, _, _, _, _, _, _, _, _, rfl, _⟩ := h; rfl) | (obtain ⟨_, _, _, _, _, _, _, _, _, _, _, rfl, _⟩ := h; rfl) | (obtain ⟨_, _, _, _, _, _, _, _, _, _, _, _, rfl, _⟩ := h; rfl))
  · have sc := sc_Web_beside
    have hu := hr.units
    have hu1 := hu_of hr
    have hu65 := room65 hr
    have hu2 := room200 hr
    obtain ⟨p, l, ms, x, n, rfl, hW, hx, k, e⟩ := h
    obtain ⟨dx, ob⟩ := hW.ob
    have li := hW.li
    have sz := hW.sz
    have no := T.n_Web_near
    have cl := T.cl_Web
    refine ⟨_, (pss_cons (ps_expr (pe_cm (pv 0) (one_me (me_Web_need_point T)) (hr.mono (by decide)) hG (takes_of rfl rfl rfl rfl) (pa_cons (pv 1) pa_nil)))
    (pss_one (ps_ret (pe_cl (ok_points_in T) (hr.mono (by decide)) hG (by rfl) T.g_points_in T.F_points_in.kp T.b_points_in (takes_of rfl rfl rfl rfl) (pa_cons (pe_ix (kIx (K := K)) (kFld (K := K) (pv 0)) (pv 1) (fun _ _ => rfl)) pa_nil))))), ?_⟩
    walk_at "j0"
    walk_at "go"
    refine u_need_point hW hx (fun i ei hi => ?_) e
    subst ei
    walk_at "go"
    refine s_ixL (SqL.of li) (atI_nat (msk_get hi)) ?_
    walk_at "go"
    exact k i rfl hi
theorem me_Web_beside (T : Txt K mg) : MethG P w K mg base 3 T.c_Web "beside" (sp_Web_beside K T.c_Web T.c_BadPoint) := ⟨T.cl_Web, _, _, _, T.m_Web_beside, ok_Web_beside T, T.b_Web_beside⟩
-- _law_kind
theorem ok__law_kind (T : Txt K mg) : FnG P w K mg base 1 T.a__law_kind T.d__law_kind ["_law_e"] (sp__law_kind K [T.c_BadSize, T.c_BadPoint, T.c_Twice, T.c_NoTie, T.c_TooMany, T.c_NoTree, T.c_BadTree, T.c_BadText]) := by
  refine okG T.F__law_kind sc__law_kind (fun vs H Q E h => ?_) (fun cdv A outer s H vs Q E hr hG h => ?_)
  · (first | (obtain ⟨rfl, _⟩ := h; rfl) | (obtain ⟨_, rfl, _⟩ := h; rfl) | (obtain ⟨_, _, rfl, _⟩ := h; rfl) | (obtain ⟨_, _, _, rfl, _⟩ := h; rfl) | (obtain ⟨_, _, _, _, rfl, _⟩ := h; rfl) | (obtain ⟨_, _, _, _, _, rfl, _⟩ := h; rfl) | (obtain ⟨_, _, _, _, _, _, rfl, _⟩ := h; rfl) | (obtain ⟨_, _, _, _, _, _, _, rfl, _⟩ := h; rfl) | (obtain ⟨_, _, _, _, _, _, _, _, rfl, _⟩ := h; rfl) | (obtain ⟨_, _, _, _, _, _, _, _, _, rfl, _⟩ := h; rfl) | (obtain ⟨_, _, _, _, _, _, _, _, _, _, rfl, _⟩ := h; rfl) | (obtain ⟨_, _, _, _, _, _, _, _, _, _, _, rfl, _⟩ := h; rfl) | (obtain ⟨_, _, _, _, _, _, _, _, _, _, _, _, rfl, _⟩ := h; rfl))
  · have sc := sc__law_kind
    have hu := hr.units
    have hu1 := hu_of hr
    have hu65 := room65 hr
    have hu2 := room200 hr
    obtain ⟨a, b1, b2, b3, b4, b5, b6, b7, b8, rfl, hE, k⟩ := h
    obtain ⟨D, eD, xD, kit, kv⟩ := hE.ex
    have S0 : Same H H := Same.refl H
    have k1 := kit 0 _ _ rfl rfl
    have k2 := kit 1 _ _ rfl rfl
    have k3 := kit 2 _ _ rfl rfl
    have k4 := kit 3 _ _ rfl rfl
    have k5 := kit 4 _ _ rfl rfl
    have k6 := kit 5 _ _ rfl rfl
    have k7 := kit 6 _ _ rfl rfl
    have k8 := kit 7 _ _ rfl rfl
    refine ⟨_, (pss_cons (ps_set (i := 1) sc.nd rfl (by first | exact Or.inl rfl | exact Or.inr rfl) (pe_op (kAdd (K := K)) (pe_op (kMul (K := K)) (pe_lst (pa_cons pe_str pa_nil)) (pe_callTy kInt1 (by rfl) T.z_int bt_int (pa_cons (pe_callB (kIs (K := K)) (by rfl) T.z_isinstance bt_isinstance (pa_cons (pv 0) (pa_cons (pe_glob (v := .ref T.c_BadSize) (by rfl) T.g_BadSize rfl) pa_nil))) pa_nil))) (pe_op (kMul (K := K)) (pe_lst (pa_cons pe_str pa_nil)) (pe_callTy kInt1 (by rfl) T.z_int bt_int (pa_cons (pe_callB (kIs (K := K)) (by rfl) T.z_isinstance bt_isinstance (pa_cons (pv 0) (pa_cons (pe_glob (v := .ref T.c_BadPoint) (by rfl) T.g_BadPoint rfl) pa_nil))) pa_nil)))))
    (pss_cons (ps_set (i := 1) sc.nd rfl (by first | exact Or.inl rfl | exact Or.inr rfl) (pe_op (kAdd (K := K)) (pe_op (kAdd (K := K)) (pv 1) (pe_op (kMul (K := K)) (pe_lst (pa_cons pe_str pa_nil)) (pe_callTy kInt1 (by rfl) T.z_int bt_int (pa_cons (pe_callB (kIs (K := K)) (by rfl) T.z_isinstance bt_isinstance (pa_cons (pv 0) (pa_cons (pe_glob (v := .ref T.c_Twice) (by rfl) T.g_Twice rfl) pa_nil))) pa_nil)))) (pe_op (kMul (K := K)) (pe_lst (pa_cons pe_str pa_nil)) (pe_callTy kInt1 (by rfl) T.z_int bt_int (pa_cons (pe_callB (kIs (K := K)) (by rfl) T.z_isinstance bt_isinstance (pa_cons (pv 0) (pa_cons (pe_glob (v := .ref T.c_NoTie) (by rfl) T.g_NoTie rfl) pa_nil))) pa_nil)))))
    (pss_cons (ps_set (i := 1) sc.nd rfl (by first | exact Or.inl rfl | exact Or.inr rfl) (pe_op (kAdd (K := K)) (pe_op (kAdd (K := K)) (pv 1) (pe_op (kMul (K := K)) (pe_lst (pa_cons pe_str pa_nil)) (pe_callTy kInt1 (by rfl) T.z_int bt_int (pa_cons (pe_callB (kIs (K := K)) (by rfl) T.z_isinstance bt_isinstance (pa_cons (pv 0) (pa_cons (pe_glob (v := .ref T.c_TooMany) (by rfl) T.g_TooMany rfl) pa_nil))) pa_nil)))) (pe_op (kMul (K := K)) (pe_lst (pa_cons pe_str pa_nil)) (pe_callTy kInt1 (by rfl) T.z_int bt_int (pa_cons (pe_callB (kIs (K := K)) (by rfl) T.z_isinstance bt_isinstance (pa_cons (pv 0) (pa_cons (pe_glob (v := .ref T.c_NoTree) (by rfl) T.g_NoTree rfl) pa_nil))) pa_nil)))))
    (pss_cons (ps_set (i := 1) sc.nd rfl (by first | exact Or.inl rfl | exact Or.inr rfl) (pe_op (kAdd (K := K)) (pe_op (kAdd (K := K)) (pv 1) (pe_op (kMul (K := K)) (pe_lst (pa_cons pe_str pa_nil)) (pe_callTy kInt1 (by rfl) T.z_int bt_int (pa_cons (pe_callB (kIs (K := K)) (by rfl) T.z_isinstance bt_isinstance (pa_cons (pv 0) (pa_cons (pe_glob (v := .ref T.c_BadTree) (by rfl) T.g_BadTree rfl) pa_nil))) pa_nil)))) (pe_op (kMul (K := K)) (pe_lst (pa_cons pe_str pa_nil)) (pe_callTy kInt1 (by rfl) T.z_int bt_int (pa_cons (pe_callB (kIs (K := K)) (by rfl) T.z_isinstance bt_isinstance (pa_cons (pv 0) (pa_cons (pe_glob (v := .ref T.c_BadText) (by rfl) T.g_BadText rfl) pa_nil))) pa_nil)))))
    (pss_one (ps_ret (kJoin (K := K) pe_str (pe_op (kAdd (K := K)) (pv 1) (pe_op (kMul (K := K)) (pe_lst (pa_cons pe_str pa_nil)) (pe_callTy kInt1 (by rfl) T.z_int bt_int (pa_cons (pe_not (pe_callB (kIs (K := K)) (by rfl) T.z_isinstance bt_isinstance (pa_cons (pv 0) (pa_cons (pe_bltn (v := .ty "ValueError") (by rfl) T.z_ValueError bt_ValueError rfl) pa_nil)))) pa_nil))))))))))), ?_⟩
    walk_at "j0"
    have z2 := kw_lenA _ b2 "point" (kw_len b1 "size")
    have z3 := kw_lenA _ b3 "twice" z2
    have z4 := kw_lenA _ b4 "no tie" z3
    have z5 := kw_lenA _ b5 "many" z4
    have z6 := kw_lenA _ b6 "row" z5
    have z7 := kw_lenA _ b7 "tree" z6
    have z8 := kw_lenA _ b8 "text" z7
    refine s_seq (s_asg (kw_acc (kw_one rfl eD xD k1) (Nat.le_trans (kw_len _ _) (by decide)) rfl eD xD k2 _ fun q2 H2 A2 E2 => ?_))
    refine s_name (σ' := [some (.ref a), some (.ref q2)]) rfl ?_
    dsimp only
    refine s_seq (s_asg (kw_acc (kw_acc (kw_var rfl E2) (Nat.le_trans z2 (by decide)) rfl (A2 _ _ eD) xD k3) (Nat.le_trans z3 (by decide)) rfl (A2 _ _ eD) xD k4 _ fun q4 H4 S4 E4 => ?_))
    have A4 := A2.trans S4
    refine s_name (σ' := [some (.ref a), some (.ref q4)]) rfl ?_
    dsimp only
    refine s_seq (s_asg (kw_acc (kw_acc (kw_var rfl E4) (Nat.le_trans z4 (by decide)) rfl (A4 _ _ eD) xD k5) (Nat.le_trans z5 (by decide)) rfl (A4 _ _ eD) xD k6 _ fun q6 H6 S6 E6 => ?_))
    have A6 := A4.trans S6
    refine s_name (σ' := [some (.ref a), some (.ref q6)]) rfl ?_
    dsimp only
    refine s_seq (s_asg (kw_acc (kw_acc (kw_var rfl E6) (Nat.le_trans z6 (by decide)) rfl (A6 _ _ eD) xD k7) (Nat.le_trans z7 (by decide)) rfl (A6 _ _ eD) xD k8 _ fun q8 H8 S8 E8 => ?_))
    have A8 := A6.trans S8
    refine s_name (σ' := [some (.ref a), some (.ref q8)]) rfl ?_
    dsimp only
    refine s_ret (kw_fin (kw_base (kw_var rfl E8) (Nat.le_trans z8 (by decide)) rfl (A8 _ _ eD) xD kv) ?_ ?_ fun H9 A9 => k _ (A8.trans A9))
    · exact Nat.le_trans (kind_size b1 b2 b3 b4 b5 b6 b7 b8 true).1 (by decide)
    · exact Nat.le_trans (kind_size b1 b2 b3 b4 b5 b6 b7 b8 true).2 (by decide)
-- _law_beside_refused
theorem ok__law_beside_refused (T : Txt K mg) : FnG P w K mg base 4 T.a__law_beside_refused T.d__law_beside_refused ["_law_web", "_law_thing"] (sp__law_beside_refused K T.c_Web) := by
  refine okG T.F__law_beside_refused sc__law_beside_refused (fun vs H Q E h => ?_) (fun cdv A outer s H vs Q E hr hG h => ?_)
  · (first | (obtain ⟨rfl, _⟩ := h; rfl) | (obtain ⟨_, rfl, _⟩ := h; rfl) | (obtain ⟨_, _, rfl, _⟩ := h; rfl) | (obtain ⟨_, _, _, rfl, _⟩ := h; rfl) | (obtain ⟨_, _, _, _, rfl, _⟩ := h; rfl) | (obtain ⟨_, _, _, _, _, rfl, _⟩ := h; rfl) | (obtain ⟨_, _, _, _, _, _, rfl, _⟩ := h; rfl) | (obtain ⟨_, _, _, _, _, _, _, rfl, _⟩ := h; rfl) | (obtain ⟨_, _, _, _, _, _, _, _, rfl, _⟩ := h; rfl) | (obtain ⟨_, _, _, _, _, _, _, _, _, rfl, _⟩ := h; rfl) | (obtain ⟨_, _, _, _, _, _, _, _, _, _, rfl, _⟩ := h; rfl) | (obtain ⟨_, _, _, _, _, _, _, _, _, _, _, rfl, _⟩ := h; rfl) | (obtain ⟨_, _, _, _, _, _, _, _, _, _, _, _, rfl, _⟩ := h; rfl))
  · have sc := sc__law_beside_refused
    have hu := hr.units
    have hu1 := hu_of hr
    have hu65 := room65 hr
    have hu2 := room200 hr
    obtain ⟨p, l, n, R, x, m, rfl, hW, hx, b, k⟩ := h
    obtain ⟨dx, ob⟩ := hW.ob
    have cl := T.cl_Web
    refine ⟨_, (pss_cons (ps_set (i := 2) sc.nd rfl (by first | exact Or.inl rfl | exact Or.inr rfl) pe_non)
    (pss_cons (kTry (K := K) (i := 3) (j := 2) (Wout := fun _ _ _ _ => False) rfl rfl rfl sc.nd rfl rfl rfl rfl (by decide) ⟨rfl, by decide, .inl T.g_JoinError⟩ takes0 rfl (fun W pn xe tk hp => (pss_one (ps_expr (pe_cm (pv 0) (one_me (me_Web_beside T)) (hr.mono (by decide)) hG tk (pa_cons (pv 1) pa_nil))))))
    (pss_one (ps_ret (pe_and (pe_cmpR op_notN1 (pv 2) pe_non (nomark _)) (pe_one (pe_cmpR (kEq (K := K) hu) (pe_cl (ok__law_kind T) (hr.mono (by decide)) hG (by rfl) T.g__law_kind T.F__law_kind.kp T.b__law_kind (takes_of rfl rfl rfl rfl) (pa_cons (pv 2) pa_nil)) pe_str (nomark _)))))))), ?_⟩
    walk_at "j0"
    walk_at "go"
    refine ⟨p, l, _, x, m, rfl, hW, hx, ?_, ?_⟩
    · rintro i rfl hi
      rw [webM_len] at hi
      rw [among_of hi] at b
      cases b
    rw [webM_len]
    intro _
    refine s_keep (exm_own T.be_JoinError T.hx_JoinError T.te_JoinError T.sb_BadPoint_JoinError) fun a ha => ?_
    dsimp only [List.set_cons_succ, List.set_cons_zero]
    walk_at "go"
    refine u__law_kind (exc_BadPoint T upd_same) fun H2 S2 => ?_
    walk_at "go"
    rw [show decide (kindT false true false false false false false false true = Str.ofString "point") = true by decide +kernel]
    exact k _ ((Same.new ha).trans S2)
-- _law_whole
theorem ok__law_whole (T : Txt K mg) : FnG P w K mg base 1 T.a__law_whole T.d__law_whole ["_law_thing"] (sp__law_whole K) := by
  refine okG T.F__law_whole sc__law_whole (fun vs H Q E h => ?_) (fun cdv A outer s H vs Q E hr hG h => ?_)
  · (first | (obtain ⟨rfl, _⟩ := h; rfl) | (obtain ⟨_, rfl, _⟩ := h; rfl) | (obtain ⟨_, _, rfl, _⟩ := h; rfl) | (obtain ⟨_, _, _, rfl, _⟩ := h; rfl) | (obtain ⟨_, _, _, _, rfl, _⟩ := h; rfl) | (obtain ⟨_, _, _, _, _, rfl, _⟩ := h; rfl) | (obtain ⟨_, _, _, _, _, _, rfl, _⟩ := h; rfl) | (obtain ⟨_, _, _, _, _, _, _, rfl, _⟩ := h; rfl) | (obtain ⟨_, _, _, _, _, _, _, _, rfl, _⟩ := h; rfl) | (obtain ⟨_, _, _, _, _, _, _, _, _, rfl, _⟩ := h; rfl) | (obtain ⟨_, _, _, _, _, _, _, _, _, _, rfl, _⟩ := h; rfl) | (obtain ⟨_, _, _, _, _, _, _, _, _, _, _, rfl, _⟩ := h; rfl) | (obtain ⟨_, _, _, _, _, _, _, _, _, _, _, _, rfl, _⟩ := h; rfl))
  · have sc := sc__law_whole
    have hu := hr.units
    have hu1 := hu_of hr
    have hu65 := room65 hr
    have hu2 := room200 hr
    obtain ⟨x, m, rfl, hx, k⟩ := h
    refine ⟨_, (pss_one (ps_ret (pe_and (pe_callB (kIs (K := K)) (by rfl) T.z_isinstance bt_isinstance (pa_cons (pv 0) (pa_cons (pe_bltn (v := .ty "int") (by rfl) T.z_int bt_int rfl) pa_nil))) (pe_one (pe_not (pe_callB (kIs (K := K)) (by rfl) T.z_isinstance bt_isinstance (pa_cons (pv 0) (pa_cons (pe_bltn (v := .ty "bool") (by rfl) T.z_bool bt_bool rfl) pa_nil)))))))), ?_⟩
    walk_at "j0"
    walk_at "go"
    cases hx
    all_goals (walk_at "go"; exact k)
-- _law_is_point
theorem ok__law_is_point (T : Txt K mg) : FnG P w K mg base 2 T.a__law_is_point T.d__law_is_point ["_law_own", "_law_thing"] (sp__law_is_point K) := by
  refine okG T.F__law_is_point sc__law_is_point (fun vs H Q E h => ?_) (fun cdv A outer s H vs Q E hr hG h => ?_)
  · (first | (obtain ⟨rfl, _⟩ := h; rfl) | (obtain ⟨_, rfl, _⟩ := h; rfl) | (obtain ⟨_, _, rfl, _⟩ := h; rfl) | (obtain ⟨_, _, _, rfl, _⟩ := h; rfl) | (obtain ⟨_, _, _, _, rfl, _⟩ := h; rfl) | (obtain ⟨_, _, _, _, _, rfl, _⟩ := h; rfl) | (obtain ⟨_, _, _, _, _, _, rfl, _⟩ := h; rfl) | (obtain ⟨_, _, _, _, _, _, _, rfl, _⟩ := h; rfl) | (obtain ⟨_, _, _, _, _, _, _, _, rfl, _⟩ := h; rfl) | (obtain ⟨_, _, _, _, _, _, _, _, _, rfl, _⟩ := h; rfl) | (obtain ⟨_, _, _, _, _, _, _, _, _, _, rfl, _⟩ := h; rfl) | (obtain ⟨_, _, _, _, _, _, _, _, _, _, _, rfl, _⟩ := h; rfl) | (obtain ⟨_, _, _, _, _, _, _, _, _, _, _, _, rfl, _⟩ := h; rfl))
  · have sc := sc__law_is_point
    have hu := hr.units
    have hu1 := hu_of hr
    have hu65 := room65 hr
    have hu2 := room200 hr
    obtain ⟨ow, td, n, L, x, m, rfl, hO, hx, k⟩ := h
    have ob := hO.ob
    refine ⟨_, (pss_one (ps_ret (pe_and (pe_cl (ok__law_whole T) (hr.mono (by decide)) hG (by rfl) T.g__law_whole T.F__law_whole.kp T.b__law_whole (takes_of rfl rfl rfl rfl) (pa_cons (pv 1) pa_nil)) (pe_one (pe_chain op_le op_lt pe_int (pv 1) (pe_dget hu1 (pv 0) pe_str (fun _ _ => rfl))))))), ?_⟩
    walk_at "j0"
    walk_at "go"
    refine u__law_whole hx ?_
    cases x
    case int i =>
      refine s_blV ?_
      refine s_then rfl ?_
      walk_at "go"
      have e0 : among (.int i) 0 ((n : Int) - 1) = (decide (0 ≤ i) && decide (i < (n : Int))) := by
        rw [among_int]
        congr 1
        rw [decide_eq_decide]
        omega
      rw [e0] at k
      refine s_dec (fun b => ?_) (fun b => ?_)
      · walk_at "go"
        refine s_dgetS ob (ownK_many n td) ?_
        walk_at "go"
        rw [decide_eq_true b, Bool.true_and] at k
        exact k
      · rw [decide_eq_false b, Bool.false_and] at k
        exact k
    all_goals
      refine s_blV ?_
      refine s_else rfl ?_
      exact k
-- _law_due
theorem ok__law_due (T : Txt K mg) : FnG P w K mg base 3 T.a__law_due T.d__law_due ["_law_own", "_law_word", "_law_one", "_law_other"] (sp__law_due K) := by
  refine okG T.F__law_due sc__law_due (fun vs H Q E h => ?_) (fun cdv A outer s H vs Q E hr hG h => ?_)
  · (first | (obtain ⟨rfl, _⟩ := h; rfl) | (obtain ⟨_, rfl, _⟩ := h; rfl) | (obtain ⟨_, _, rfl, _⟩ := h; rfl) | (obtain ⟨_, _, _, rfl, _⟩ := h; rfl) | (obtain ⟨_, _, _, _, rfl, _⟩ := h; rfl) | (obtain ⟨_, _, _, _, _, rfl, _⟩ := h; rfl) | (obtain ⟨_, _, _, _, _, _, rfl, _⟩ := h; rfl) | (obtain ⟨_, _, _, _, _, _, _, rfl, _⟩ := h; rfl) | (obtain ⟨_, _, _, _, _, _, _, _, rfl, _⟩ := h; rfl) | (obtain ⟨_, _, _, _, _, _, _, _, _, rfl, _⟩ := h; rfl) | (obtain ⟨_, _, _, _, _, _, _, _, _, _, rfl, _⟩ := h; rfl) | (obtain ⟨_, _, _, _, _, _, _, _, _, _, _, rfl, _⟩ := h; rfl) | (obtain ⟨_, _, _, _, _, _, _, _, _, _, _, _, rfl, _⟩ := h; rfl))
  · have sc := sc__law_due
    have hu := hr.units
    have hu1 := hu_of hr
    have hu65 := room65 hr
    have hu2 := room200 hr
    obtain ⟨ow, td, n, R, L, w', x, y, m, m', rfl, hO, hT, hR, hw, hx, hy, k⟩ := h
    have ob := hO.ob
    refine ⟨_, (pss_cons (ps_if (pt_cmpR (kEq (K := K) hu) (pv 1) pe_str (nomark _)) (pss_one (ps_ret (pe_ix (kIx (K := K)) (pe_lst (pa_cons pe_str (pa_cons pe_str pa_nil))) (pe_callTy kInt1 (by rfl) T.z_int bt_int (pa_cons (pe_cmpR (kEq (K := K) hu) (pe_dget hu1 (pv 0) pe_str (fun _ _ => rfl)) pe_int (nomark _)) pa_nil)) (fun _ _ => rfl)))) pss_nil)
    (pss_cons (ps_if (PW.pt (pw_or (pt_not (pt_val (pe_cl (ok__law_is_point T) (hr.mono (by decide)) hG (by rfl) T.g__law_is_point T.F__law_is_point.kp T.b__law_is_point (takes_of rfl rfl rfl rfl) (pa_cons (pv 0) (pa_cons (pv 2) pa_nil))))) (pw_or (pt_not (pt_val (pe_cl (ok__law_is_point T) (hr.mono (by decide)) hG (by rfl) T.g__law_is_point T.F__law_is_point.kp T.b__law_is_point (takes_of rfl rfl rfl rfl) (pa_cons (pv 0) (pa_cons (pv 3) pa_nil))))) (pw_or1 (pt_cmpR (kEq (K := K) hu) (pv 2) (pv 3) (nomark _)))))) (pss_one (ps_ret pe_str)) pss_nil)
    (pss_cons (ps_set (i := 4) sc.nd rfl (by first | exact Or.inl rfl | exact Or.inr rfl) (pe_cmp (pc_din hu1 (pe_tup (pa_cons (pe_callB (kMin2 rfl) (by rfl) T.z_min bt_min (pa_cons (pv 2) (pa_cons (pv 3) pa_nil))) (pa_cons (pe_callB (kMax2 rfl) (by rfl) T.z_max bt_max (pa_cons (pv 2) (pa_cons (pv 3) pa_nil))) pa_nil))) (pe_dget hu1 (pv 0) pe_str (fun _ _ => rfl)))))
    (pss_cons (ps_if (PW.pt (pw_and (pt_cmpR (kEq (K := K) hu) (pv 1) pe_str (nomark _)) (pw_and1 (pt_val (pv 4))))) (pss_one (ps_ret pe_str)) pss_nil)
    (pss_cons (ps_if (PW.pt (pw_and (pt_cmpR (kEq (K := K) hu) (pv 1) pe_str (nomark _)) (pw_and1 (pt_not (pt_val (pv 4)))))) (pss_one (ps_ret pe_str)) pss_nil)
    (pss_one (ps_ret pe_str))))))), ?_⟩
    walk_at "j0"
    have S0 : Same H H := Same.refl H
    by_cases hg : w' = "grow"
    · subst hg
      rw [outc_grow] at k
      walk_at "go"
      intro p hp
      walk_at "go"
      refine s_dgetS (up_old hp ob) (ownK_many n td) ?_
      walk_at "go"
      have e0 : decide ((n : Int) = 30) = decide (n = 30) := by rw [decide_eq_decide]; omega
      rw [e0]
      by_cases h : n = 30
      · rw [if_pos h] at k
        rw [decide_eq_true h]
        refine s_ixL (SqL.of upd_same) (atI_nat (j := 1) rfl) ?_
        exact k _ (Same.new hp)
      · rw [if_neg h] at k
        rw [decide_eq_false h]
        refine s_ixL (SqL.of upd_same) (atI_nat (j := 0) rfl) ?_
        exact k _ (Same.new hp)
    · have gd : decide (w' = Str.ofString "grow") = false := decide_eq_false hg
      walk_at "go"
      refine s_else gd ?_
      walk_at "go"
      refine u__law_is_point hO hx ?_
      have kb : good n x y = false → ∀ H', Same H H' → Q (.str "point") H' := fun b => by rw [outc_bad hg b] at k; exact k
      cases hbx : among x 0 ((n : Int) - 1) with
      | false =>
        walk_at "go"
        exact kb (by unfold good; rw [hbx]; rfl) _ S0
      | true =>
        walk_at "go"
        refine u__law_is_point hO hy ?_
        cases hby : among y 0 ((n : Int) - 1) with
        | false =>
          walk_at "go"
          exact kb (by unfold good; rw [hby]; simp) _ S0
        | true =>
          obtain ⟨i, rfl, hi⟩ := among_nat hbx
          obtain ⟨j, rfl, hj⟩ := among_nat hby
          walk_at "go"
          refine s_dec (fun e => ?_) (fun ne => ?_)
          · exact kb (by unfold good; rw [e]; simp) _ S0
          · have ne' : i ≠ j := by omega
            walk_at "go"
            intro t ht
            walk_at "go"
            refine s_dgetS (up_old ht ob) (ownK_ties n td) ?_
            have em := hT.in hR hi hj ne'
            have S1 := Same.new (o := .tup [.int ((min i j : Nat) : Int), .int ((max i j : Nat) : Int)]) ht
            refine s_dinT (q := (min i j, max i j)) (up_old ht hO.ti) upd_same (fun mem => ?_) (fun nmem => ?_)
            · have hb : R i j = true := by rw [← em]; exact decide_eq_true mem
              generalize upd H t (.tup [.int ((min i j : Nat) : Int), .int ((max i j : Nat) : Int)]) = G at S1 ⊢
              dsimp only [Option.isSome]
              rcases hw with rfl | rfl | rfl | rfl
              · rw [outc_put hi hj ne', if_pos hb] at k; walk_at "go"; exact k _ S1
              · rw [outc_take hi hj ne', if_pos hb] at k; walk_at "go"; exact k _ S1
              · rw [outc_has hi hj ne'] at k; walk_at "go"; exact k _ S1
              · exact absurd rfl hg
            · have hb : ¬ R i j = true := by rw [← em, decide_eq_false nmem]; decide
              generalize upd H t (.tup [.int ((min i j : Nat) : Int), .int ((max i j : Nat) : Int)]) = G at S1 ⊢
              dsimp only [Option.isSome]
              rcases hw with rfl | rfl | rfl | rfl
              · rw [outc_put hi hj ne', if_neg hb] at k; walk_at "go"; exact k _ S1
              · rw [outc_take hi hj ne', if_neg hb] at k; walk_at "go"; exact k _ S1
              · rw [outc_has hi hj ne'] at k; walk_at "go"; exact k _ S1
              · exact absurd rfl hg
-- Web_grow
theorem ok_Web_grow (T : Txt K mg) : FnG P w K mg base 1 T.a_Web_grow T.d_Web_grow ["self"] (sp_Web_grow T.c_Web T.c_TooMany) := by
  refine okG T.F_Web_grow sc_Web_grow (fun vs H Q E h => ?_) (fun cdv A outer s H vs Q E hr hG h => ?_)
  · (first | (obtain ⟨rfl, _⟩ := h; rfl) | (obtain ⟨_, rfl, _⟩ := h; rfl) | (obtain ⟨_, _, rfl, _⟩ := h; rfl) | (obtain ⟨_, _, _, rfl, _⟩ := h; rfl) | (obtain ⟨_, _, _, _, rfl, _⟩ := h; rfl) | (obtain ⟨_, _, _, _, _, rfl, _⟩ := h; rfl) | (obtain ⟨_, _, _, _, _, _, rfl, _⟩ := h; rfl) | (obtain ⟨_, _, _, _, _, _, _, rfl, _⟩ := h; rfl) | (obtain ⟨_, _, _, _, _, _, _, _, rfl, _⟩ := h; rfl) | (obtain ⟨_, _, _, _, _, _, _, _, _, rfl, _⟩ := h; rfl) | (obtain ⟨_, _, _, _, _, _, _, _, _, _, rfl, _⟩ := h; rfl) | (obtain ⟨_, _, _, _, _, _, _, _, _, _, _, rfl, _⟩ := h; rfl) | (obtain ⟨_, _, _, _, _, _, _, _, _, _, _, _, rfl, _⟩ := h; rfl))
  · have sc := sc_Web_grow
    have hu := hr.units
    have hu1 := hu_of hr
    have hu65 := room65 hr
    have hu2 := room200 hr
    obtain ⟨p, l, ms, rfl, hW, k, e⟩ := h
    obtain ⟨dx, ob⟩ := hW.ob
    have li := hW.li
    have sz := hW.sz
    have no := T.n_Web_near
    have cl := T.cl_Web
    have np := hW.ne
    refine ⟨_, (pss_cons (ps_if (pt_cmpR (kEq (K := K) hu) (pe_callB (kLen (K := K)) (by rfl) T.z_len bt_len (pa_cons (kFld (K := K) (pv 0)) pa_nil)) (pe_glob (v := .int 30) (by rfl) T.g_MOST_POINTS ⟨_, rfl⟩) (nomark _)) (pss_one (ps_raise rfl (takes_of rfl rfl rfl rfl) (pmk_own PySem.F.excBase_ValueError T.x_TooMany T.g_TooMany T.kp_TooMany (raises_own T.be_TooMany T.te_TooMany) rfl))) pss_nil)
    (pss_cons (ps_expr (pe_bm PySem.F.plainAttrs_list PySem.F.slot_list_append PySem.F.type_list_append mt_append (kFld (K := K) (pv 0)) (pa_cons pe_int pa_nil)))
    (pss_one (ps_ret (pe_op op_sub (pe_callB (kLen (K := K)) (by rfl) T.z_len bt_len (pa_cons (kFld (K := K) (pv 0)) pa_nil)) pe_int))))), ?_⟩
    walk_at "j0"
    walk_at "go"
    refine s_lenL (.inl (SqL.of li)) ?_
    rw [msk_length]
    walk_at "go"
    refine s_dec (fun q => ?_) (fun q => ?_)
    · exact e (by omega)
    · walk_at "go"
      refine s_append li (Nat.lt_of_le_of_lt (m := 30) (by rw [msk_length]; exact sz) (by decide)) ?_
      walk_at "go"
      refine s_lenL (.inl (SqL.of upd_same)) ?_
      walk_at "go"
      have e1 : ((msk ms ++ [V.int 0]).length : Int) - 1 = (ms.length : Int) := by rw [List.length_append, msk_length, List.length_singleton]; omega
      rw [e1]
      rw [← msk_app (v := 0)] at k
      exact k (by omega)
theorem me_Web_grow (T : Txt K mg) : MethG P w K mg base 1 T.c_Web "grow" (sp_Web_grow T.c_Web T.c_TooMany) := ⟨T.cl_Web, _, _, _, T.m_Web_grow, ok_Web_grow T, T.b_Web_grow⟩
-- Web_has
theorem ok_Web_has (T : Txt K mg) : FnG P w K mg base 3 T.a_Web_has T.d_Web_has ["self", "one", "other"] (sp_Web_has K T.c_Web T.c_BadPoint) := by
  refine okG T.F_Web_has sc_Web_has (fun vs H Q E h => ?_) (fun cdv A outer s H vs Q E hr hG h => ?_)
  · (first | (obtain ⟨rfl, _⟩ := h; rfl) | (obtain ⟨_, rfl, _⟩ := h; rfl) | (obtain ⟨_, _, rfl, _⟩ := h; rfl) | (obtain ⟨_, _, _, rfl, _⟩ := h; rfl) | (obtain ⟨_, _, _, _, rfl, _⟩ := h; rfl) | (obtain ⟨_, _, _, _, _, rfl, _⟩ := h; rfl) | (obtain ⟨_, _, _, _, _, _, rfl, _⟩ := h; rfl) | (obtain ⟨_, _, _, _, _, _, _, rfl, _⟩ := h; rfl) | (obtain ⟨_, _, _, _, _, _, _, _, rfl, _⟩ := h; rfl) | (obtain ⟨_, _, _, _, _, _, _, _, _, rfl, _⟩ := h; rfl) | (obtain ⟨_, _, _, _, _, _, _, _, _, _, rfl, _⟩ := h; rfl) | (obtain ⟨_, _, _, _, _, _, _, _, _, _, _, rfl, _⟩ := h; rfl) | (obtain ⟨_, _, _, _, _, _, _, _, _, _, _, _, rfl, _⟩ := h; rfl))
  · have sc := sc_Web_has
    have hu := hr.units
    have hu1 := hu_of hr
    have hu65 := room65 hr
    have hu2 := room200 hr
    obtain ⟨p, l, ms, x, y, n, m, rfl, hW, hx, hy, k, e⟩ := h
    obtain ⟨dx, ob⟩ := hW.ob
    have li := hW.li
    have sz := hW.sz
    have no := T.n_Web_near
    have cl := T.cl_Web
    refine ⟨_, (pss_cons (ps_expr (pe_cm (pv 0) (one_me (me_Web_need_point T)) (hr.mono (by decide)) hG (takes_of rfl rfl rfl rfl) (pa_cons (pv 1) pa_nil)))
    (pss_cons (ps_expr (pe_cm (pv 0) (one_me (me_Web_need_point T)) (hr.mono (by decide)) hG (takes_of rfl rfl rfl rfl) (pa_cons (pv 2) pa_nil)))
    (pss_cons (ps_if (pt_cmpR (kEq (K := K) hu) (pv 1) (pv 2) (nomark _)) (pss_one (ps_raise rfl (takes_of rfl rfl rfl rfl) (pmk_own PySem.F.excBase_ValueError T.x_BadPoint T.g_BadPoint T.kp_BadPoint (raises_own T.be_BadPoint T.te_BadPoint) rfl))) pss_nil)
    (pss_one (ps_ret (pe_cmpR (kEq (K := K) hu) (pe_op op_and (pe_op op_shr (pe_ix (kIx (K := K)) (kFld (K := K) (pv 0)) (pv 1) (fun _ _ => rfl)) (pv 2)) pe_int) pe_int (nomark _))))))), ?_⟩
    walk_at "j0"
    walk_at "go"
    refine u_need_point hW hx (fun i ei hi => ?_) (fun b => e (by unfold good; rw [b]; rfl))
    walk_at "go"
    refine u_need_point hW hy (fun j ej hj => ?_) (fun b => e (by unfold good; rw [b]; simp))
    subst ei ej
    walk_at "go"
    refine s_dec (fun q => ?_) (fun q => ?_)
    · exact e (by unfold good; rw [q]; simp)
    · walk_at "go"
      refine s_ixL (SqL.of li) (atI_nat (msk_get hi)) ?_
      walk_at "go"
      rw [bit_dec]
      exact k i j rfl rfl hi hj (by omega)
theorem me_Web_has (T : Txt K mg) : MethG P w K mg base 3 T.c_Web "has" (sp_Web_has K T.c_Web T.c_BadPoint) := ⟨T.cl_Web, _, _, _, T.m_Web_has, ok_Web_has T, T.b_Web_has⟩
-- Web_change
theorem ok_Web_change (T : Txt K mg) : FnG P w K mg base 1 T.a_Web_change T.d_Web_change ["self", "one", "other"] (sp_Web_change T.c_Web) := by
  refine okG T.F_Web_change sc_Web_change (fun vs H Q E h => ?_) (fun cdv A outer s H vs Q E hr hG h => ?_)
  · (first | (obtain ⟨rfl, _⟩ := h; rfl) | (obtain ⟨_, rfl, _⟩ := h; rfl) | (obtain ⟨_, _, rfl, _⟩ := h; rfl) | (obtain ⟨_, _, _, rfl, _⟩ := h; rfl) | (obtain ⟨_, _, _, _, rfl, _⟩ := h; rfl) | (obtain ⟨_, _, _, _, _, rfl, _⟩ := h; rfl) | (obtain ⟨_, _, _, _, _, _, rfl, _⟩ := h; rfl) | (obtain ⟨_, _, _, _, _, _, _, rfl, _⟩ := h; rfl) | (obtain ⟨_, _, _, _, _, _, _, _, rfl, _⟩ := h; rfl) | (obtain ⟨_, _, _, _, _, _, _, _, _, rfl, _⟩ := h; rfl) | (obtain ⟨_, _, _, _, _, _, _, _, _, _, rfl, _⟩ := h; rfl) | (obtain ⟨_, _, _, _, _, _, _, _, _, _, _, rfl, _⟩ := h; rfl) | (obtain ⟨_, _, _, _, _, _, _, _, _, _, _, _, rfl, _⟩ := h; rfl))
  · have sc := sc_Web_change
    have hu := hr.units
    have hu1 := hu_of hr
    have hu65 := room65 hr
    have hu2 := room200 hr
    obtain ⟨p, l, ms, i, j, rfl, hW, hi, hj, k⟩ := h
    obtain ⟨dx, ob⟩ := hW.ob
    have li := hW.li
    have sz := hW.sz
    have no := T.n_Web_near
    have cl := T.cl_Web
    have np := hW.ne
    refine ⟨_, (pss_cons (ps_augS (kFld (K := K) (pv 0)) (pv 1) (kGet (K := K)) (pe_op op_shl pe_int (pv 2)) iop_xor set_list)
    (pss_one (ps_augS (kFld (K := K) (pv 0)) (pv 2) (kGet (K := K)) (pe_op op_shl pe_int (pv 1)) iop_xor set_list))), ?_⟩
    walk_at "j0"
    walk_at "go"
    refine s_ixN (SqL.of li) (msk_get hi) ?_
    walk_at "go"
    refine s_setN li (by rw [msk_length]; exact hi) ?_
    rw [bit_flip, msk_set]
    walk_at "go"
    refine s_ixN (SqL.of upd_same) (msk_get (by simpa using hj)) ?_
    walk_at "go"
    refine s_setN upd_same (by rw [msk_length]; simpa using hj) ?_
    rw [bit_flip, msk_set, upd_upd]
    exact k
theorem me_Web_change (T : Txt K mg) : MethG P w K mg base 1 T.c_Web "change" (sp_Web_change T.c_Web) := ⟨T.cl_Web, _, _, _, T.m_Web_change, ok_Web_change T, T.b_Web_change⟩
-- Web_put
theorem ok_Web_put (T : Txt K mg) : FnG P w K mg base 4 T.a_Web_put T.d_Web_put ["self", "one", "other"] (sp_Web_turn false K T.c_Web T.c_BadPoint T.c_Twice) := by
  refine okG T.F_Web_put sc_Web_put (fun vs H Q E h => ?_) (fun cdv A outer s H vs Q E hr hG h => ?_)
  · (first | (obtain ⟨rfl, _⟩ := h; rfl) | (obtain ⟨_, rfl, _⟩ := h; rfl) | (obtain ⟨_, _, rfl, _⟩ := h; rfl) | (obtain ⟨_, _, _, rfl, _⟩ := h; rfl) | (obtain ⟨_, _, _, _, rfl, _⟩ := h; rfl) | (obtain ⟨_, _, _, _, _, rfl, _⟩ := h; rfl) | (obtain ⟨_, _, _, _, _, _, rfl, _⟩ := h; rfl) | (obtain ⟨_, _, _, _, _, _, _, rfl, _⟩ := h; rfl) | (obtain ⟨_, _, _, _, _, _, _, _, rfl, _⟩ := h; rfl) | (obtain ⟨_, _, _, _, _, _, _, _, _, rfl, _⟩ := h; rfl) | (obtain ⟨_, _, _, _, _, _, _, _, _, _, rfl, _⟩ := h; rfl) | (obtain ⟨_, _, _, _, _, _, _, _, _, _, _, rfl, _⟩ := h; rfl) | (obtain ⟨_, _, _, _, _, _, _, _, _, _, _, _, rfl, _⟩ := h; rfl))
  · have sc := sc_Web_put
    have hu := hr.units
    have hu1 := hu_of hr
    have hu65 := room65 hr
    have hu2 := room200 hr
    obtain ⟨p, l, ms, x, y, n, m, rfl, hW, hx, hy, k, e⟩ := h
    obtain ⟨dx, ob⟩ := hW.ob
    have li := hW.li
    have sz := hW.sz
    have no := T.n_Web_near
    have cl := T.cl_Web
    refine ⟨_, (pss_cons (ps_if (pt_val (pe_cm (pv 0) (one_me (me_Web_has T)) (hr.mono (by decide)) hG (takes_of rfl rfl rfl rfl) (pa_cons (pv 1) (pa_cons (pv 2) pa_nil)))) (pss_one (ps_raise rfl (takes_of rfl rfl rfl rfl) (pmk_own PySem.F.excBase_ValueError T.x_Twice T.g_Twice T.kp_Twice (raises_own T.be_Twice T.te_Twice) rfl))) pss_nil)
    (pss_one (ps_expr (pe_cm (pv 0) (one_me (me_Web_change T)) (hr.mono (by decide)) hG (takes_of rfl rfl rfl rfl) (pa_cons (pv 1) (pa_cons (pv 2) pa_nil)))))), ?_⟩
    walk_at "j0"
    walk_at "go"
    refine u_has hW hx hy (fun i j ei ej hi hj ne => ?_) e
    obtain ⟨k1, k2⟩ := k i j ei ej hi hj ne
    subst ei ej
    walk_at "go"
    refine s_ite (fun b => ?_) (fun b => ?_)
    · exact k2 (by simpa using b)
    · walk_at "go"
      refine u_change hW hi hj ?_
      exact k1 (by simpa using b)
theorem me_Web_put (T : Txt K mg) : MethG P w K mg base 4 T.c_Web "put" (sp_Web_turn false K T.c_Web T.c_BadPoint T.c_Twice) := ⟨T.cl_Web, _, _, _, T.m_Web_put, ok_Web_put T, T.b_Web_put⟩
-- Web_take
theorem ok_Web_take (T : Txt K mg) : FnG P w K mg base 4 T.a_Web_take T.d_Web_take ["self", "one", "other"] (sp_Web_turn true K T.c_Web T.c_BadPoint T.c_NoTie) := by
  refine okG T.F_Web_take sc_Web_take (fun vs H Q E h => ?_) (fun cdv A outer s H vs Q E hr hG h => ?_)
  · (first | (obtain ⟨rfl, _⟩ := h; rfl) | (obtain ⟨_, rfl, _⟩ := h; rfl) | (obtain ⟨_, _, rfl, _⟩ := h; rfl) | (obtain ⟨_, _, _, rfl, _⟩ := h; rfl) | (obtain ⟨_, _, _, _, rfl, _⟩ := h; rfl) | (obtain ⟨_, _, _, _, _, rfl, _⟩ := h; rfl) | (obtain ⟨_, _, _, _, _, _, rfl, _⟩ := h; rfl) | (obtain ⟨_, _, _, _, _, _, _, rfl, _⟩ := h; rfl) | (obtain ⟨_, _, _, _, _, _, _, _, rfl, _⟩ := h; rfl) | (obtain ⟨_, _, _, _, _, _, _, _, _, rfl, _⟩ := h; rfl) | (obtain ⟨_, _, _, _, _, _, _, _, _, _, rfl, _⟩ := h; rfl) | (obtain ⟨_, _, _, _, _, _, _, _, _, _, _, rfl, _⟩ := h; rfl) | (obtain ⟨_, _, _, _, _, _, _, _, _, _, _, _, rfl, _⟩ := h; rfl))
  · have sc := sc_Web_take
    have hu := hr.units
    have hu1 := hu_of hr
    have hu65 := room65 hr
    have hu2 := room200 hr
    obtain ⟨p, l, ms, x, y, n, m, rfl, hW, hx, hy, k, e⟩ := h
    obtain ⟨dx, ob⟩ := hW.ob
    have li := hW.li
    have sz := hW.sz
    have no := T.n_Web_near
    have cl := T.cl_Web
    refine ⟨_, (pss_cons (ps_if (pt_not (pt_val (pe_cm (pv 0) (one_me (me_Web_has T)) (hr.mono (by decide)) hG (takes_of rfl rfl rfl rfl) (pa_cons (pv 1) (pa_cons (pv 2) pa_nil))))) (pss_one (ps_raise rfl (takes_of rfl rfl rfl rfl) (pmk_own PySem.F.excBase_ValueError T.x_NoTie T.g_NoTie T.kp_NoTie (raises_own T.be_NoTie T.te_NoTie) rfl))) pss_nil)
    (pss_one (ps_expr (pe_cm (pv 0) (one_me (me_Web_change T)) (hr.mono (by decide)) hG (takes_of rfl rfl rfl rfl) (pa_cons (pv 1) (pa_cons (pv 2) pa_nil)))))), ?_⟩
    walk_at "j0"
    walk_at "go"
    refine u_has hW hx hy (fun i j ei ej hi hj ne => ?_) e
    obtain ⟨k1, k2⟩ := k i j ei ej hi hj ne
    subst ei ej
    walk_at "go"
    refine s_ite (fun b => ?_) (fun b => ?_)
    · exact k2 (by simpa using b)
    · walk_at "go"
      refine u_change hW hi hj ?_
      exact k1 (by simpa using b)
theorem me_Web_take (T : Txt K mg) : MethG P w K mg base 4 T.c_Web "take" (sp_Web_turn true K T.c_Web T.c_BadPoint T.c_NoTie) := ⟨T.cl_Web, _, _, _, T.m_Web_take, ok_Web_take T, T.b_Web_take⟩
-- _law_call
theorem ok__law_call (T : Txt K mg) : FnG P w K mg base 5 T.a__law_call T.d__law_call ["_law_web", "_law_word", "_law_one", "_law_other"] (sp__law_call K T.c_Web (eAt T.c_BadPoint T.c_Twice T.c_NoTie T.c_TooMany)) := by
  refine okG T.F__law_call sc__law_call (fun vs H Q E h => ?_) (fun cdv A outer s H vs Q E hr hG h => ?_)
  · (first | (obtain ⟨rfl, _⟩ := h; rfl) | (obtain ⟨_, rfl, _⟩ := h; rfl) | (obtain ⟨_, _, rfl, _⟩ := h; rfl) | (obtain ⟨_, _, _, rfl, _⟩ := h; rfl) | (obtain ⟨_, _, _, _, rfl, _⟩ := h; rfl) | (obtain ⟨_, _, _, _, _, rfl, _⟩ := h; rfl) | (obtain ⟨_, _, _, _, _, _, rfl, _⟩ := h; rfl) | (obtain ⟨_, _, _, _, _, _, _, rfl, _⟩ := h; rfl) | (obtain ⟨_, _, _, _, _, _, _, _, rfl, _⟩ := h; rfl) | (obtain ⟨_, _, _, _, _, _, _, _, _, rfl, _⟩ := h; rfl) | (obtain ⟨_, _, _, _, _, _, _, _, _, _, rfl, _⟩ := h; rfl) | (obtain ⟨_, _, _, _, _, _, _, _, _, _, _, rfl, _⟩ := h; rfl) | (obtain ⟨_, _, _, _, _, _, _, _, _, _, _, _, rfl, _⟩ := h; rfl))
  · have sc := sc__law_call
    have hu := hr.units
    have hu1 := hu_of hr
    have hu65 := room65 hr
    have hu2 := room200 hr
    obtain ⟨p, l, n, R, w', x, y, m, m', rfl, hW, hn, hw, hx, hy, k⟩ := h
    obtain ⟨dx, ob⟩ := hW.ob
    have cl := T.cl_Web
    refine ⟨_, (pss_cons (ps_if (pt_cmpR (kEq (K := K) hu) (pv 1) pe_str (nomark _)) (pss_one (ps_ret (pe_cm0 (pv 0) (one_me (me_Web_grow T)) (hr.mono (by decide)) hG (takes_of rfl rfl rfl rfl)))) pss_nil)
    (pss_cons (ps_if (pt_cmpR (kEq (K := K) hu) (pv 1) pe_str (nomark _)) (pss_one (ps_ret (pe_cm (pv 0) (one_me (me_Web_put T)) (hr.mono (by decide)) hG (takes_of rfl rfl rfl rfl) (pa_cons (pv 2) (pa_cons (pv 3) pa_nil))))) pss_nil)
    (pss_cons (ps_if (pt_cmpR (kEq (K := K) hu) (pv 1) pe_str (nomark _)) (pss_one (ps_ret (pe_cm (pv 0) (one_me (me_Web_take T)) (hr.mono (by decide)) hG (takes_of rfl rfl rfl rfl) (pa_cons (pv 2) (pa_cons (pv 3) pa_nil))))) pss_nil)
    (pss_one (ps_ret (pe_cm (pv 0) (one_me (me_Web_has T)) (hr.mono (by decide)) hG (takes_of rfl rfl rfl rfl) (pa_cons (pv 2) (pa_cons (pv 3) pa_nil)))))))), ?_⟩
    walk_at "j0"
    rcases hw with rfl | rfl | rfl | rfl
    · walk_at "go"
      refine ⟨p, l, _, x, y, m, m', rfl, hW, hx, hy, ?_, ?_⟩
      · rintro i j rfl rfl hi hj ne
        rw [webM_len] at hi hj
        rw [outc_put hi hj ne] at k
        rw [webM_bit hi hj, flip_webM hi hj ne]
        constructor
        · intro b
          rw [if_neg (by rw [b]; decide)] at k
          exact k (hW.put (by rw [webM_len]; exact hn))
        · intro b
          rw [if_pos (by rw [b]; rfl)] at k
          exact k
      · rw [webM_len]
        intro b
        rw [outc_bad w_pg b] at k
        exact k
    · walk_at "go"
      refine ⟨p, l, _, x, y, m, m', rfl, hW, hx, hy, ?_, ?_⟩
      · rintro i j rfl rfl hi hj ne
        rw [webM_len] at hi hj
        rw [outc_take hi hj ne] at k
        rw [webM_bit hi hj, flip_webM hi hj ne]
        constructor
        · intro b
          rw [if_pos b] at k
          exact k (hW.put (by rw [webM_len]; exact hn))
        · intro b
          rw [if_neg (by rw [b]; decide)] at k
          exact k
      · rw [webM_len]
        intro b
        rw [outc_bad w_tg b] at k
        exact k
    · walk_at "go"
      refine u_has hW hx hy ?_ ?_
      · rintro i j rfl rfl hi hj ne
        rw [webM_len] at hi hj
        rw [outc_has hi hj ne] at k
        rw [webM_bit hi hj]
        dsimp only at k
        rw [upd_id hW.li] at k
        exact k hW
      · rw [webM_len]
        intro b
        rw [outc_bad w_hg b] at k
        exact k
    · walk_at "go"
      rw [outc_grow] at k
      refine ⟨p, l, _, rfl, hW, ?_, ?_⟩
      · rw [webM_len, webM_grow]
        intro b
        rw [if_neg b] at k
        exact k (hW.put (by rw [webM_len]; omega))
      · rw [webM_len]
        intro b
        rw [if_pos b] at k
        exact k
-- _law_said
theorem ok__law_said (T : Txt K mg) : FnG P w K mg base 6 T.a__law_said T.d__law_said ["_law_web", "_law_word", "_law_one", "_law_other"] (sp__law_said K T.c_Web) := by
  refine okG T.F__law_said sc__law_said (fun vs H Q E h => ?_) (fun cdv A outer s H vs Q E hr hG h => ?_)
  · (first | (obtain ⟨rfl, _⟩ := h; rfl) | (obtain ⟨_, rfl, _⟩ := h; rfl) | (obtain ⟨_, _, rfl, _⟩ := h; rfl) | (obtain ⟨_, _, _, rfl, _⟩ := h; rfl) | (obtain ⟨_, _, _, _, rfl, _⟩ := h; rfl) | (obtain ⟨_, _, _, _, _, rfl, _⟩ := h; rfl) | (obtain ⟨_, _, _, _, _, _, rfl, _⟩ := h; rfl) | (obtain ⟨_, _, _, _, _, _, _, rfl, _⟩ := h; rfl) | (obtain ⟨_, _, _, _, _, _, _, _, rfl, _⟩ := h; rfl) | (obtain ⟨_, _, _, _, _, _, _, _, _, rfl, _⟩ := h; rfl) | (obtain ⟨_, _, _, _, _, _, _, _, _, _, rfl, _⟩ := h; rfl) | (obtain ⟨_, _, _, _, _, _, _, _, _, _, _, rfl, _⟩ := h; rfl) | (obtain ⟨_, _, _, _, _, _, _, _, _, _, _, _, rfl, _⟩ := h; rfl))
  · have sc := sc__law_said
    have hu := hr.units
    have hu1 := hu_of hr
    have hu65 := room65 hr
    have hu2 := room200 hr
    obtain ⟨p, l, n, R, w', x, y, m, m', rfl, hW, hn, hw, hx, hy, k⟩ := h
    refine ⟨_, (pss_cons (ps_set (i := 4) sc.nd rfl (by first | exact Or.inl rfl | exact Or.inr rfl) pe_non)
    (pss_cons (ps_set (i := 5) sc.nd rfl (by first | exact Or.inl rfl | exact Or.inr rfl) pe_non)
    (pss_cons (kTry (K := K) (i := 6) (j := 4) (Wout := fun _ _ _ _ => False) rfl rfl rfl sc.nd rfl rfl rfl rfl (by decide) ⟨rfl, by decide, .inl T.g_JoinError⟩ takes0 rfl (fun W pn xe tk hp => (pss_one (ps_set (i := 5) sc.nd rfl (by first | exact Or.inl rfl | exact Or.inr rfl) (pe_cl (ok__law_call T) (hr.mono (by decide)) hG (by rfl) T.g__law_call T.F__law_call.kp T.b__law_call tk (pa_cons (pv 0) (pa_cons (pv 1) (pa_cons (pv 2) (pa_cons (pv 3) pa_nil)))))))))
    (pss_cons (ps_if (pt_cmpR op_notN1 (pv 4) pe_non (nomark _)) (pss_one (ps_ret (pe_tup (pa_cons (pe_cl (ok__law_kind T) (hr.mono (by decide)) hG (by rfl) T.g__law_kind T.F__law_kind.kp T.b__law_kind (takes_of rfl rfl rfl rfl) (pa_cons (pv 4) pa_nil)) (pa_cons pe_non pa_nil))))) pss_nil)
    (pss_one (ps_ret (pe_tup (pa_cons pe_str (pa_cons (pv 5) pa_nil))))))))), ?_⟩
    walk_at "j0"
    walk_at "go"
    refine ⟨p, l, n, R, w', x, y, m, m', rfl, hW, hn, hw, hx, hy, ?_⟩
    cases ho : outc n R w' x y with
    | err kk =>
      rw [ho] at k
      dsimp only at k ⊢
      match kk, k with
      | 0, k =>
        refine s_keep (exm_own T.be_JoinError T.hx_JoinError T.te_JoinError T.sb_BadPoint_JoinError) fun a ha => ?_
        dsimp only [List.set_cons_succ, List.set_cons_zero]
        walk_at "go"
        refine u__law_kind (exc_BadPoint T upd_same) fun H2 S2 => ?_
        walk_at "go"
        intro t ht
        exact k t _ (((Same.new ha).trans S2).trans (Same.new ht)) (by rw [upd_same, show kindT false true false false false false false false true = outK (.err 0) by decide +kernel])
      | 1, k =>
        refine s_keep (exm_own T.be_JoinError T.hx_JoinError T.te_JoinError T.sb_Twice_JoinError) fun a ha => ?_
        dsimp only [List.set_cons_succ, List.set_cons_zero]
        walk_at "go"
        refine u__law_kind (exc_Twice T upd_same) fun H2 S2 => ?_
        walk_at "go"
        intro t ht
        exact k t _ (((Same.new ha).trans S2).trans (Same.new ht)) (by rw [upd_same, show kindT false false true false false false false false true = outK (.err 1) by decide +kernel])
      | 2, k =>
        refine s_keep (exm_own T.be_JoinError T.hx_JoinError T.te_JoinError T.sb_NoTie_JoinError) fun a ha => ?_
        dsimp only [List.set_cons_succ, List.set_cons_zero]
        walk_at "go"
        refine u__law_kind (exc_NoTie T upd_same) fun H2 S2 => ?_
        walk_at "go"
        intro t ht
        exact k t _ (((Same.new ha).trans S2).trans (Same.new ht)) (by rw [upd_same, show kindT false false false true false false false false true = outK (.err 2) by decide +kernel])
      | 3, k =>
        refine s_keep (exm_own T.be_JoinError T.hx_JoinError T.te_JoinError T.sb_TooMany_JoinError) fun a ha => ?_
        dsimp only [List.set_cons_succ, List.set_cons_zero]
        walk_at "go"
        refine u__law_kind (exc_TooMany T upd_same) fun H2 S2 => ?_
        walk_at "go"
        intro t ht
        exact k t _ (((Same.new ha).trans S2).trans (Same.new ht)) (by rw [upd_same, show kindT false false false false true false false false true = outK (.err 3) by decide +kernel])
    | ok v n' R' =>
      rw [ho] at k
      dsimp only at k ⊢
      intro hW'
      walk_at "go"
      intro t ht
      exact k t _ (Same.new ht) (hW'.same (Same.new ht)) upd_same
-- _law_done
theorem ok__law_done (T : Txt K mg) : FnG P w K mg base 7 T.a__law_done T.d__law_done ["_law_web", "_law_own", "_law_word", "_law_one", "_law_other"] (sp__law_done K T.c_Web) := by
  refine okG T.F__law_done sc__law_done (fun vs H Q E h => ?_) (fun cdv A outer s H vs Q E hr hG h => ?_)
  · (first | (obtain ⟨rfl, _⟩ := h; rfl) | (obtain ⟨_, rfl, _⟩ := h; rfl) | (obtain ⟨_, _, rfl, _⟩ := h; rfl) | (obtain ⟨_, _, _, rfl, _⟩ := h; rfl) | (obtain ⟨_, _, _, _, rfl, _⟩ := h; rfl) | (obtain ⟨_, _, _, _, _, rfl, _⟩ := h; rfl) | (obtain ⟨_, _, _, _, _, _, rfl, _⟩ := h; rfl) | (obtain ⟨_, _, _, _, _, _, _, rfl, _⟩ := h; rfl) | (obtain ⟨_, _, _, _, _, _, _, _, rfl, _⟩ := h; rfl) | (obtain ⟨_, _, _, _, _, _, _, _, _, rfl, _⟩ := h; rfl) | (obtain ⟨_, _, _, _, _, _, _, _, _, _, rfl, _⟩ := h; rfl) | (obtain ⟨_, _, _, _, _, _, _, _, _, _, _, rfl, _⟩ := h; rfl) | (obtain ⟨_, _, _, _, _, _, _, _, _, _, _, _, rfl, _⟩ := h; rfl))
  · have sc := sc__law_done
    have hu := hr.units
    have hu1 := hu_of hr
    have hu65 := room65 hr
    have hu2 := room200 hr
    obtain ⟨p, l, ow, td, n, R, L, w', x, y, m, m', rfl, hB, hw, hx, hy, k⟩ := h
    refine ⟨_, (pss_cons (ps_set (i := 5) sc.nd rfl (by first | exact Or.inl rfl | exact Or.inr rfl) (pe_cl (ok__law_due T) (hr.mono (by decide)) hG (by rfl) T.g__law_due T.F__law_due.kp T.b__law_due (takes_of rfl rfl rfl rfl) (pa_cons (pv 1) (pa_cons (pv 2) (pa_cons (pv 3) (pa_cons (pv 4) pa_nil))))))
    (pss_cons (ps_asg (pe_cl (ok__law_said T) (hr.mono (by decide)) hG (by rfl) T.g__law_said T.F__law_said.kp T.b__law_said (takes_of rfl rfl rfl rfl) (pa_cons (pv 0) (pa_cons (pv 2) (pa_cons (pv 3) (pa_cons (pv 4) pa_nil))))) (kGtup (K := K) (n := 2) rfl (pgs_cons (pg_name (i := 6) sc.nd rfl (by first | exact Or.inl rfl | exact Or.inr rfl)) (pgs_cons (pg_name (i := 7) sc.nd rfl (by first | exact Or.inl rfl | exact Or.inr rfl)) pgs_nil))))
    (pss_cons (ps_if (pt_cmpR (kNe (K := K) hu) (pv 6) (pv 5) (nomark _)) (pss_one (ps_ret pe_bl)) pss_nil)
    (pss_cons (ps_if (pt_cmpR (kNe (K := K) hu) (pv 5) pe_str (nomark _)) (pss_one (ps_ret pe_bl)) pss_nil)
    (pss_cons (ps_if (pt_cmpR (kEq (K := K) hu) (pv 2) pe_str (nomark _)) (pss_cons (ps_dput hu1 (pv 1) pe_str (pe_op (kAdd (K := K)) (pe_dget hu1 (pv 1) pe_str (fun _ _ => rfl)) pe_int) (by rfl))
    (pss_one (ps_ret (pe_and (pe_cl (ok__law_whole T) (hr.mono (by decide)) hG (by rfl) T.g__law_whole T.F__law_whole.kp T.b__law_whole (takes_of rfl rfl rfl rfl) (pa_cons (pv 7) pa_nil)) (pe_one (pe_cmpR (kEq (K := K) hu) (pv 7) (pe_op op_sub (pe_dget hu1 (pv 1) pe_str (fun _ _ => rfl)) pe_int) (nomark _))))))) pss_nil)
    (pss_cons (ps_set (i := 8) sc.nd rfl (by first | exact Or.inl rfl | exact Or.inr rfl) (pe_tup (pa_cons (pe_callB (kMin2 rfl) (by rfl) T.z_min bt_min (pa_cons (pv 3) (pa_cons (pv 4) pa_nil))) (pa_cons (pe_callB (kMax2 rfl) (by rfl) T.z_max bt_max (pa_cons (pv 3) (pa_cons (pv 4) pa_nil))) pa_nil))))
    (pss_cons (ps_if (pt_cmpR (kEq (K := K) hu) (pv 2) pe_str (nomark _)) (pss_one (ps_ret (pe_and (pe_callB (kIs (K := K)) (by rfl) T.z_isinstance bt_isinstance (pa_cons (pv 7) (pa_cons (pe_bltn (v := .ty "bool") (by rfl) T.z_bool bt_bool rfl) pa_nil))) (pe_one (pe_cmpR (kEq (K := K) hu) (pv 7) (pe_cmp (pc_din hu1 (pv 8) (pe_dget hu1 (pv 1) pe_str (fun _ _ => rfl)))) (nomark _)))))) pss_nil)
    (pss_cons (ps_if (pt_cmpR (kEq (K := K) hu) (pv 2) pe_str (nomark _)) (pss_one (ps_dput hu1 (pe_dget hu1 (pv 1) pe_str (fun _ _ => rfl)) (pv 8) pe_bl (by rfl))) (pss_one (ps_expr (pe_bm PySem.F.plainAttrs_dict PySem.F.slot_dict_pop PySem.F.type_dict_pop (kPop1T hu1) (pe_dget hu1 (pv 1) pe_str (fun _ _ => rfl)) (pa_cons (pv 8) pa_nil)))))
    (pss_one (ps_ret (pe_cmpR op_isN1 (pv 7) pe_non (nomark _)))))))))))), ?_⟩
    walk_at "j0"
    walk_at "go"
    refine ⟨ow, td, n, R, L, w', x, y, m, m', rfl, hB.own, hB.tell, hB.sym, hw, hx, hy, fun H1 S1 => ?_⟩
    walk_at "go"
    have hB1 := hB.same S1
    refine ⟨p, l, n, R, w', x, y, m, m', rfl, hB1.web, hB.le, hw, hx.same S1, hy.same S1, ?_⟩
    have nol : ow ≠ l := ne_of hB1.own.ob hB1.web.li (by intro z; cases z)
    have ntl : td ≠ l := ne_of hB1.own.ti hB1.web.li (by intro z; cases z)
    cases ho : outc n R w' x y with
    | err kk =>
      dsimp only
      intro t H2 S2 et
      walk_at "go"
      refine s_else (by rw [decide_eq_true rfl]; rfl) ?_
      walk_at "go"
      refine s_then (outK_err kk) ?_
      walk_at "go"
      exact k n R L H2 (Nat.le_refl _) (Stay.same (S1.trans S2)) (hB1.same S2)
    | ok v n' R' =>
      dsimp only
      intro t H2 S2 hW2 et
      have St2 : Stay [l, ow, td] H H2 := (Stay.same S1).trans ((Stay.upd List.mem_cons_self).trans (Stay.same S2))
      have hO2 : OwnAt H2 ow td n L := (hB1.own.off nol ntl).same S2
      have npo : p ≠ ow := by
        obtain ⟨dx, ob⟩ := hW2.ob
        exact ne_of ob hO2.ob (by intro z; cases z)
      have npt : p ≠ td := by
        obtain ⟨dx, ob⟩ := hW2.ob
        exact ne_of ob hO2.ti (by intro z; cases z)
      have LL := hB.tell.len hB.le
      by_cases hg : w' = "grow"
      · subst hg
        rw [outc_grow] at ho
        by_cases h30 : n = 30
        · rw [if_pos h30] at ho; cases ho
        rw [if_neg h30] at ho
        cases ho
        walk_at "go"
        refine s_dgetS hO2.ob (ownK_many n td) ?_
        walk_at "go"
        refine s_dputS hO2.ob (by show 2 < sizeLine; decide) ?_
        rw [ownK_put]
        have hB3 : Both T.c_Web (upd H2 ow (.dK (ownK (n + 1) td))) p l ow td (n + 1) (growR n R) L :=
          ⟨hW2.off npo nol.symm, ⟨upd_same, up_ne hO2.ne.symm hO2.ti⟩, hB.tell.grow, hB.sym.grow, by have := hB.le; omega, by omega⟩
        have St3 : Stay [l, ow, td] H (upd H2 ow (.dK (ownK (n + 1) td))) := St2.trans (Stay.upd (by simp))
        generalize upd H2 ow (.dK (ownK (n + 1) td)) = G at hB3 St3 ⊢
        walk_at "go"
        refine u__law_whole (.int _) ?_
        refine s_blV ?_
        refine s_then rfl ?_
        walk_at "go"
        refine s_dgetS hB3.own.ob (ownK_many (n + 1) td) ?_
        walk_at "go"
        rw [decide_eq_true (show (n : Int) = ((n + 1 : Nat) : Int) - 1 by omega)]
        exact k (n + 1) _ L G (by omega) St3 hB3
      · have gd : decide (w' = Str.ofString "grow") = false := decide_eq_false hg
        have gd2 : good n x y = true := by
          cases hb : good n x y with
          | true => rfl
          | false => rw [outc_bad hg hb] at ho; cases ho
        obtain ⟨i, j, rfl, rfl, hi, hj, ne⟩ := good_nat gd2
        have em := hB.tell.in hB.sym hi hj ne
        walk_at "go"
        refine s_else gd ?_
        walk_at "go"
        intro t2 ht2
        have St3 : Stay [l, ow, td] H (upd H2 t2 (.tup [.int ((min i j : Nat) : Int), .int ((max i j : Nat) : Int)])) := St2.trans (Stay.same (Same.new ht2))
        have hO3 := hO2.same (Same.new (o := .tup [.int ((min i j : Nat) : Int), .int ((max i j : Nat) : Int)]) ht2)
        have hW3 := hW2.same (Same.new (o := .tup [.int ((min i j : Nat) : Int), .int ((max i j : Nat) : Int)]) ht2)
        have e3 : upd H2 t2 (.tup [.int ((min i j : Nat) : Int), .int ((max i j : Nat) : Int)]) t2 = some (.tup [.int ((min i j : Nat) : Int), .int ((max i j : Nat) : Int)]) := upd_same
        generalize upd H2 t2 (.tup [.int ((min i j : Nat) : Int), .int ((max i j : Nat) : Int)]) = G at St3 hO3 hW3 e3 ⊢
        rcases hw with rfl | rfl | rfl | rfl
        · rw [outc_put hi hj ne] at ho
          by_cases hb : R i j = true
          · rw [if_pos hb] at ho; cases ho
          rw [if_neg hb] at ho
          cases ho
          have hb' : R i j = false := by cases h : R i j with | true => exact absurd h hb | false => rfl
          have nm : (min i j, max i j) ∉ L := fun z => by rw [decide_eq_true z] at em; rw [hb'] at em; cases em
          walk_at "go"
          refine s_dgetS hO3.ob (ownK_ties n td) ?_
          walk_at "go"
          refine s_dputT (q := (min i j, max i j)) hO3.ti e3 (by rw [tieKV_len]; exact Nat.lt_of_le_of_lt LL (by decide)) ?_
          rw [tieKV_put nm]
          walk_at "go"
          refine k n _ (L ++ [(min i j, max i j)]) _ (Nat.le_refl _) (St3.trans (Stay.upd (by simp))) ⟨hW3.off npt ntl.symm, ⟨up_ne hO3.ne hO3.ob, upd_same⟩, hB.tell.put hB.sym hi hj ne hb', hB.sym.togg ne, hB.le, hB.pos⟩
        · rw [outc_take hi hj ne] at ho
          by_cases hb : R i j = true
          rotate_left
          · rw [if_neg hb] at ho; cases ho
          rw [if_pos hb] at ho
          cases ho
          have mm : (min i j, max i j) ∈ L := by rw [hb] at em; exact of_decide_eq_true em
          walk_at "go"
          refine s_dgetS hO3.ob (ownK_ties n td) ?_
          walk_at "go"
          refine s_tyDT hO3.ti ?_
          walk_at "go"
          refine s_pop1T (q := (min i j, max i j)) hO3.ti e3 mm ?_
          walk_at "go"
          refine k n _ _ _ (Nat.le_refl _) (St3.trans (Stay.upd (by simp))) ⟨hW3.off npt ntl.symm, ⟨up_ne hO3.ne hO3.ob, upd_same⟩, hB.tell.filt hB.sym hi hj ne hb, hB.sym.togg ne, hB.le, hB.pos⟩
        · rw [outc_has hi hj ne] at ho
          cases ho
          walk_at "go"
          refine s_dgetS hO3.ob (ownK_ties n td) ?_
          refine s_dinT (q := (min i j, max i j)) hO3.ti e3 (fun mem => ?_) (fun nmem => ?_)
          · rw [decide_eq_true mem] at em
            rw [← em]
            dsimp only [Option.isSome]
            refine s_eq rfl ?_
            exact k n R L G (Nat.le_refl _) St3 ⟨hW3, hO3, hB.tell, hB.sym, hB.le, hB.pos⟩
          · rw [decide_eq_false nmem] at em
            rw [← em]
            dsimp only [Option.isSome]
            refine s_eq rfl ?_
            exact k n R L G (Nat.le_refl _) St3 ⟨hW3, hO3, hB.tell, hB.sym, hB.le, hB.pos⟩
        · exact absurd rfl hg
-- Web_many
theorem ok_Web_many (T : Txt K mg) : FnG P w K mg base 1 T.a_Web_many T.d_Web_many ["self"] (sp_Web_many T.c_Web) := by
  refine okG T.F_Web_many sc_Web_many (fun vs H Q E h => ?_) (fun cdv A outer s H vs Q E hr hG h => ?_)
  · (first | (obtain ⟨rfl, _⟩ := h; rfl) | (obtain ⟨_, rfl, _⟩ := h; rfl) | (obtain ⟨_, _, rfl, _⟩ := h; rfl) | (obtain ⟨_, _, _, rfl, _⟩ := h; rfl) | (obtain ⟨_, _, _, _, rfl, _⟩ := h; rfl) | (obtain ⟨_, _, _, _, _, rfl, _⟩ := h; rfl) | (obtain ⟨_, _, _, _, _, _, rfl, _⟩ := h; rfl) | (obtain ⟨_, _, _, _, _, _, _, rfl, _⟩ := h; rfl) | (obtain ⟨_, _, _, _, _, _, _, _, rfl, _⟩ := h; rfl) | (obtain ⟨_, _, _, _, _, _, _, _, _, rfl, _⟩ := h; rfl) | (obtain ⟨_, _, _, _, _, _, _, _, _, _, rfl, _⟩ := h; rfl) | (obtain ⟨_, _, _, _, _, _, _, _, _, _, _, rfl, _⟩ := h; rfl) | (obtain ⟨_, _, _, _, _, _, _, _, _, _, _, _, rfl, _⟩ := h; rfl))
  · have sc := sc_Web_many
    have hu := hr.units
    have hu1 := hu_of hr
    have hu65 := room65 hr
    have hu2 := room200 hr
    obtain ⟨p, l, ms, rfl, hW, k⟩ := h
    obtain ⟨dx, ob⟩ := hW.ob
    have li := hW.li
    have sz := hW.sz
    have no := T.n_Web_near
    have cl := T.cl_Web
    refine ⟨_, (pss_one (ps_ret (pe_callB (kLen (K := K)) (by rfl) T.z_len bt_len (pa_cons (kFld (K := K) (pv 0)) pa_nil)))), ?_⟩
    walk_at "j0"
    walk_at "go"
    refine s_lenL (.inl (SqL.of li)) ?_
    rw [msk_length]
    exact k
theorem me_Web_many (T : Txt K mg) : MethG P w K mg base 1 T.c_Web "many" (sp_Web_many T.c_Web) := ⟨T.cl_Web, _, _, _, T.m_Web_many, ok_Web_many T, T.b_Web_many⟩
-- Web_ties
theorem ok_Web_ties (T : Txt K mg) : FnG P w K mg base 2 T.a_Web_ties T.d_Web_ties ["self"] (sp_Web_ties T.c_Web) := by
  refine okG T.F_Web_ties sc_Web_ties (fun vs H Q E h => ?_) (fun cdv A outer s H vs Q E hr hG h => ?_)
  · (first | (obtain ⟨rfl, _⟩ := h; rfl) | (obtain ⟨_, rfl, _⟩ := h; rfl) | (obtain ⟨_, _, rfl, _⟩ := h; rfl) | (obtain ⟨_, _, _, rfl, _⟩ := h; rfl) | (obtain ⟨_, _, _, _, rfl, _⟩ := h; rfl) | (obtain ⟨_, _, _, _, _, rfl, _⟩ := h; rfl) | (obtain ⟨_, _, _, _, _, _, rfl, _⟩ := h; rfl) | (obtain ⟨_, _, _, _, _, _, _, rfl, _⟩ := h; rfl) | (obtain ⟨_, _, _, _, _, _, _, _, rfl, _⟩ := h; rfl) | (obtain ⟨_, _, _, _, _, _, _, _, _, rfl, _⟩ := h; rfl) | (obtain ⟨_, _, _, _, _, _, _, _, _, _, rfl, _⟩ := h; rfl) | (obtain ⟨_, _, _, _, _, _, _, _, _, _, _, rfl, _⟩ := h; rfl) | (obtain ⟨_, _, _, _, _, _, _, _, _, _, _, _, rfl, _⟩ := h; rfl))
  · have sc := sc_Web_ties
    have hu := hr.units
    have hu1 := hu_of hr
    have hu65 := room65 hr
    have hu2 := room200 hr
    obtain ⟨p, l, ms, rfl, hW, k⟩ := h
    obtain ⟨dx, ob⟩ := hW.ob
    have li := hW.li
    have sz := hW.sz
    have no := T.n_Web_near
    have cl := T.cl_Web
    refine ⟨_, (pss_cons (ps_set (i := 1) sc.nd rfl (by first | exact Or.inl rfl | exact Or.inr rfl) (pe_lst pa_nil))
    (pss_cons (ps_for (passes_of rfl) rfl (kEnum (K := K) (by rfl) T.z_enumerate (pa_cons (kFld (K := K) (pv 0)) pa_nil)) (kGtup (K := K) (n := 2) rfl (pgs_cons (pg_name (i := 2) sc.nd rfl (by first | exact Or.inl rfl | exact Or.inr rfl)) (pgs_cons (pg_name (i := 3) sc.nd rfl (by first | exact Or.inl rfl | exact Or.inr rfl)) pgs_nil)))
    (pss_one (ps_expr (pe_bm PySem.F.plainAttrs_list PySem.F.slot_list_extend PySem.F.type_list_extend mt_extend (pv 1) (pa_cons (pe_lc (own := [("other", 4)]) rfl sc.nd (kList (K := K) (pe_cl (ok_points_in T) (hr.mono (by decide)) hG (by rfl) T.g_points_in T.F_points_in.kp T.b_points_in (takes_of rfl rfl rfl rfl) (pa_cons (pv 3) pa_nil))) (blkOk_by (own := [("other", 4)]) (N := ["self", "found", "one", "bits", "other"]) (sc := defScope st_Web_ties) (by decide +kernel)) (fun _ _ _ _ _ => (pg_name (i := 4) sc.nd rfl (Or.inl rfl))) (fun _ _ _ _ _ => (pts_one (pt_cmpR op_lt (pv 2) (pv 4) (nomark _)))) (fun _ _ _ _ _ => (pe_tup (pa_cons (pv 2) (pa_cons (pv 4) pa_nil))))) pa_nil)))))
    (pss_one (ps_ret (pv 1))))), ?_⟩
    walk_at "j0"
    walk_at "go"
    intro q hq
    walk_at "go"
    have li1 : SqL K (upd H q (.lst [])) l (msk ms) := by walk_at "jh"
    refine for_it (walk_enum (xs := msk ms)) (fun i σ H' => ∃ (v1 v2 : Option V) (xs : List V), σ = [some (.ref p), some (.ref q), v1, v2, none] ∧ Same H H' ∧ H' q = some (.lst xs) ∧ PairsAt H' xs (tiesTo ms i)) ⟨none, none, [], rfl, Same.new hq, upd_same, .nil⟩ ?_ ?_ ?_
    · rintro i σ H' hi ⟨v1, v2, xs, rfl, S, hx, hp⟩
      exact S.seq (SqL.of li)
    · rintro i x σ H' H2 hi ⟨v1, v2, xs, rfl, S, hx, hp⟩ ⟨T0, y, z, rfl, hT0, rfl, ey, ez⟩
      rw [msk_length] at hi
      have ey' : y = V.int (i : Int) := (Option.some.inj ey).symm
      subst ey'
      have ez' : z = V.int ((ms.getD i 0 : Nat) : Int) := by
        have e0 := msk_get hi
        have ez0 : (msk ms)[i]? = some z := ez
        rw [e0] at ez0
        exact (Option.some.inj ez0).symm
      subst ez'
      have h2q : upd H' T0 (.tup [.int (i : Int), .int ((ms.getD i 0 : Nat) : Int)]) q = some (.lst xs) := by walk_at "jh"
      walk_at "go"
      intro l1 hl1
      walk_at "go"
      intro D hD
      have hp2 : PairsAt (upd (upd H' T0 (.tup [.int (i : Int), .int ((ms.getD i 0 : Nat) : Int)])) l1 (.lst (msk (pts (ms.getD i 0))))) xs (tiesTo ms i) := hp.same ((Same.new hT0).trans (Same.new hl1))
      have S2 : Same H (upd (upd H' T0 (.tup [.int (i : Int), .int ((ms.getD i 0 : Nat) : Int)])) l1 (.lst (msk (pts (ms.getD i 0))))) := S.trans ((Same.new hT0).trans (Same.new hl1))
      have hl1' : upd (upd H' T0 (.tup [.int (i : Int), .int ((ms.getD i 0 : Nat) : Int)])) l1 (.lst (msk (pts (ms.getD i 0)))) l1 = some (.lst (msk (pts (ms.getD i 0)))) := upd_same
      have h3q : upd (upd H' T0 (.tup [.int (i : Int), .int ((ms.getD i 0 : Nat) : Int)])) l1 (.lst (msk (pts (ms.getD i 0)))) q = some (.lst xs) := by walk_at "jh"
      generalize upd (upd H' T0 (.tup [.int (i : Int), .int ((ms.getD i 0 : Nat) : Int)])) l1 (.lst (msk (pts (ms.getD i 0)))) = G at hp2 S2 hl1' h3q hD ⊢
      refine lc_it (walk_list (xs := msk (pts (ms.getD i 0)))) (fun j H' => ∃ ys, Same G H' ∧ H' D = some (.lst ys) ∧ ys.length ≤ j ∧ PairsAt H' ys (((pts (ms.getD i 0)).take j).filterMap fun o => if i < o then some (i, o) else none)) ⟨[], Same.new hD, upd_same, Nat.le_refl _, .nil⟩ ?_ ?_ ?_
      · rintro j H' hj ⟨ys, S3, hy, hl, hpy⟩
        exact S3.seq (SqL.of hl1')
      · rintro j x H' H'' hj ⟨ys, S3, hy, hl, hpy⟩ ⟨rfl, ex⟩
        rw [msk_length] at hj
        have ex' : x = V.int (((pts (ms.getD i 0)).getD j 0 : Nat) : Int) := by
          rw [msk_get hj] at ex
          exact (Option.some.inj ex).symm
        subst ex'
        have eo : (pts (ms.getD i 0))[j]? = some ((pts (ms.getD i 0)).getD j 0) := getD_at hj
        generalize (pts (ms.getD i 0)).getD j 0 = o at eo ⊢
        walk_at "jlc"
        walk_at "go"
        refine ⟨rfl, ?_⟩
        walk_at "go"
        have lt30 : (pts (ms.getD i 0)).length ≤ 30 := pts_length _
        refine s_dec (fun b => ?_) (fun b => ?_)
        · walk_at "go"
          intro t ht
          refine ⟨ys, by walk_at "jh", Nat.lt_of_le_of_lt (m := 30) (by omega) (by decide), ys ++ [.ref t], ?_, upd_same, by simp; omega, ?_⟩
          · exact Same.mut (S3.trans (Same.new ht)) hD
          · rw [take_succ_of eo, List.filterMap_append]
            have e1 : List.filterMap (fun o => if i < o then some (i, o) else none) [o] = [(i, o)] := by simp [show i < o by omega]
            rw [e1]
            have hy' : upd H'' t (.tup [.int (i : Int), .int (o : Int)]) D = some (.lst ys) := by walk_at "jh"
            exact PairsAt.upd hy' ((hpy.same (Same.new ht)).app (.cons ⟨t, rfl, upd_same⟩ .nil))
        · refine ⟨ys, S3, hy, by omega, ?_⟩
          rw [take_succ_of eo, List.filterMap_append]
          have e1 : List.filterMap (fun o => if i < o then some (i, o) else none) [o] = [] := by simp [show ¬ i < o by omega]
          rw [e1, List.append_nil]
          exact hpy
      · rintro H4 ⟨ys, S4, hy, hl, hpy⟩
        rw [msk_length, List.take_length] at hpy
        have nqD : q ≠ D := ne_of_none h3q hD
        have h4q := S4 _ _ h3q
        walk_at "go"
        refine s_extend h4q hy ?_ ?_
        · have a1 := hp2.len
          have a2 := tiesTo_length ms i (by omega)
          rw [msk_length] at hl
          have a3 := pts_length (ms.getD i 0)
          exact Nat.le_trans (m := 1000) (by omega) (by decide)
        · refine ⟨_, _, xs ++ ys, rfl, Same.mut (S2.trans S4) hq, upd_same, ?_⟩
          rw [tiesTo_succ (by omega)]
          exact PairsAt.upd h4q ((hp2.same S4).app hpy)
    · rintro σ H' ⟨v1, v2, xs, rfl, S, hx, hp⟩
      walk_at "go"
      refine k q xs H' S hq hx ?_
      rw [msk_length, tiesTo_all] at hp
      exact hp
theorem me_Web_ties (T : Txt K mg) : MethG P w K mg base 2 T.c_Web "ties" (sp_Web_ties T.c_Web) := ⟨T.cl_Web, _, _, _, T.m_Web_ties, ok_Web_ties T, T.b_Web_ties⟩
-- _law_looked
theorem ok__law_looked (T : Txt K mg) : FnG P w K mg base 4 T.a__law_looked T.d__law_looked ["_law_web", "_law_own", "_law_point", "_law_held"] (sp__law_looked K T.c_Web) := by
  refine okG T.F__law_looked sc__law_looked (fun vs H Q E h => ?_) (fun cdv A outer s H vs Q E hr hG h => ?_)
  · (first | (obtain ⟨rfl, _⟩ := h; rfl) | (obtain ⟨_, rfl, _⟩ := h; rfl) | (obtain ⟨_, _, rfl, _⟩ := h; rfl) | (obtain ⟨_, _, _, rfl, _⟩ := h; rfl) | (obtain ⟨_, _, _, _, rfl, _⟩ := h; rfl) | (obtain ⟨_, _, _, _, _, rfl, _⟩ := h; rfl) | (obtain ⟨_, _, _, _, _, _, rfl, _⟩ := h; rfl) | (obtain ⟨_, _, _, _, _, _, _, rfl, _⟩ := h; rfl) | (obtain ⟨_, _, _, _, _, _, _, _, rfl, _⟩ := h; rfl) | (obtain ⟨_, _, _, _, _, _, _, _, _, rfl, _⟩ := h; rfl) | (obtain ⟨_, _, _, _, _, _, _, _, _, _, rfl, _⟩ := h; rfl) | (obtain ⟨_, _, _, _, _, _, _, _, _, _, _, rfl, _⟩ := h; rfl) | (obtain ⟨_, _, _, _, _, _, _, _, _, _, _, _, rfl, _⟩ := h; rfl))
  · have sc := sc__law_looked
    have hu := hr.units
    have hu1 := hu_of hr
    have hu65 := room65 hr
    have hu2 := room200 hr
    obtain ⟨p, l, ow, td, n, R, L, i, he, hs, Av, rfl, hB, hi, hH, k⟩ := h
    have ob := hB.own.ob
    obtain ⟨hhe, hhl, hAv, hmem, hnl, hheld⟩ := hH
    have LL := hB.tell.len hB.le
    obtain ⟨dxW, obW⟩ := hB.web.ob
    have cl := T.cl_Web
    refine ⟨_, (pss_cons (ps_set (i := 4) sc.nd rfl (by first | exact Or.inl rfl | exact Or.inr rfl) (pe_callB (kSorted (K := K)) (by rfl) T.z_sorted bt_sorted (pa_cons (pe_lock (pe_lc (own := [("_law_one", 8), ("_law_other", 9)]) rfl sc.nd (pi_keys (pe_dget hu1 (pv 1) pe_str (fun _ _ => rfl))) (blkOk_by (own := [("_law_one", 8), ("_law_other", 9)]) (N := ["_law_web", "_law_own", "_law_point", "_law_held", "_law_near", "_law_told", "_law_found", "_law_due_here", "_law_one", "_law_other"]) (sc := defScope st__law_looked) (by decide +kernel)) (fun _ _ _ _ _ => (kGtup (K := K) (n := 2) rfl (pgs_cons (pg_name (i := 8) sc.nd rfl (Or.inl rfl)) (pgs_cons (pg_name (i := 9) sc.nd rfl (Or.inl rfl)) pgs_nil)))) (fun _ _ _ _ _ => (pts_one (PW.pt (pw_or (pt_cmpR (kEq (K := K) hu) (pv 2) (pv 8) (nomark _)) (pw_or1 (pt_cmpR (kEq (K := K) hu) (pv 2) (pv 9) (nomark _))))))) (fun _ _ _ _ _ => (pe_op op_sub (pe_op (kAdd (K := K)) (pv 8) (pv 9)) (pv 2))))) pa_nil)))
    (pss_cons (ps_set (i := 5) sc.nd rfl (by first | exact Or.inl rfl | exact Or.inr rfl) (pe_lst (pa_cons (pe_cm (pv 0) (one_me (me_Web_beside T)) (hr.mono (by decide)) hG (takes_of rfl rfl rfl rfl) (pa_cons (pv 2) pa_nil)) (pa_cons (pe_cm0 (pv 0) (one_me (me_Web_ties T)) (hr.mono (by decide)) hG (takes_of rfl rfl rfl rfl)) pa_nil))))
    (pss_cons (ps_if (PW.pt (pw_or (pt_cmpR (kNe (K := K) hu) (pe_cm0 (pv 0) (one_me (me_Web_many T)) (hr.mono (by decide)) hG (takes_of rfl rfl rfl rfl)) (pe_dget hu1 (pv 1) pe_str (fun _ _ => rfl)) (nomark _)) (pw_or1 (pt_not (pt_val (pe_cl (ok__law_whole T) (hr.mono (by decide)) hG (by rfl) T.g__law_whole T.F__law_whole.kp T.b__law_whole (takes_of rfl rfl rfl rfl) (pa_cons (pe_cm0 (pv 0) (one_me (me_Web_many T)) (hr.mono (by decide)) hG (takes_of rfl rfl rfl rfl)) pa_nil))))))) (pss_one (ps_ret pe_bl)) pss_nil)
    (pss_cons (ps_for (passes_of rfl) rfl (kZip (K := K) (by rfl) T.z_zip (pa_cons (pv 5) (pa_cons (pe_lst (pa_cons (pv 4) (pa_cons (pe_callB (kSortDT rfl) (by rfl) T.z_sorted bt_sorted (pa_cons (pe_dget hu1 (pv 1) pe_str (fun _ _ => rfl)) pa_nil)) pa_nil))) pa_nil))) (kGtup (K := K) (n := 2) rfl (pgs_cons (pg_name (i := 6) sc.nd rfl (by first | exact Or.inl rfl | exact Or.inr rfl)) (pgs_cons (pg_name (i := 7) sc.nd rfl (by first | exact Or.inl rfl | exact Or.inr rfl)) pgs_nil)))
    (pss_cons (ps_if (PW.pt (pw_or (pt_not (pt_val (pe_callB (kIs (K := K)) (by rfl) T.z_isinstance bt_isinstance (pa_cons (pv 6) (pa_cons (pe_bltn (v := .ty "list") (by rfl) T.z_list bt_list rfl) pa_nil))))) (pw_or1 (pt_cmpR (kNe (K := K) hu) (pe_callB (kRepr (K := K) hG hu2) (by rfl) T.z_repr bt_repr (pa_cons (pv 6) pa_nil)) (pe_callB (kRepr (K := K) hG hu2) (by rfl) T.z_repr bt_repr (pa_cons (pv 7) pa_nil)) (nomark _))))) (pss_one (ps_ret pe_bl)) pss_nil)
    (pss_cons (ps_expr (pe_bm PySem.F.plainAttrs_list PySem.F.slot_list_append PySem.F.type_list_append mt_append (pv 6) (pa_cons pe_int pa_nil)))
    (pss_one (ps_expr (pe_bm PySem.F.plainAttrs_list PySem.F.slot_list_append PySem.F.type_list_append mt_append (pv 3) (pa_cons (pe_tup (pa_cons (pv 6) (pa_cons (pe_callTy (kListO (K := K)) (by rfl) T.z_list bt_list (pa_cons (pv 6) pa_nil)) pa_nil))) pa_nil)))))))
    (pss_one (ps_ret pe_bl)))))), ?_⟩
    walk_at "j0"
    walk_at "go"
    refine ⟨td, .dT (tieKV L), hB.own.ti, trivial, fun od => ?_⟩
    refine s_lc ?_
    refine s_ikeys ?_
    have ob1 : upd H td (.frz od (.dT (tieKV L))) ow = some (.dK (ownK n td)) := up_ne hB.own.ne ob
    walk_at "go"
    refine s_dgetS ob1 (ownK_ties n td) ?_
    refine ⟨td, od, rfl, .inr ⟨tieKV L, upd_same, ?_⟩⟩
    intro D hD
    have nD : D ≠ td := (ne_of_none upd_same hD).symm
    have fD : H D = none := free_of hD
    refine lc_it walk_keysT (fun j H' => H' = upd (upd H td (.frz od (.dT (tieKV L)))) D (.lst (msk (nearN i (L.take j))))) rfl (fun j H' _ e => by subst e; exact up_ne nD.symm upd_same) ?_ ?_
    · rintro j x H' H2 hj rfl ⟨rfl, kk, v, q, ek, rfl, eq⟩
      rw [tieKV_len] at hj
      obtain ⟨⟨a, b⟩, eL⟩ : ∃ q', L[j]? = some q' := ⟨L[j], List.getElem?_eq_getElem hj⟩
      have ek' : (tieKV L)[j]? = some (tieK (a, b), V.bl true) := by unfold tieKV; rw [List.getElem?_map, eL]; rfl
      rw [ek'] at ek
      injection ek with ek
      injection ek with ek1 ek2
      subst ek1
      have et : upd (upd H td (.frz od (.dT (tieKV L)))) D (.lst (msk (nearN i (L.take j)))) q = some (.tup [.int (a : Int), .int (b : Int)]) := eq
      have lt := (hB.tell.me a b).mp (List.mem_of_getElem? eL)
      have lacc : (msk (nearN i (L.take j))).length < sizeLine := by
        rw [msk_length]
        have h1 : (nearN i (L.take j)).length ≤ (L.take j).length := List.length_filterMap_le _ _
        rw [List.length_take] at h1
        exact Nat.lt_of_le_of_lt (m := 900) (by omega) (by decide)
      walk_at "jlc"
      walk_at "go"
      refine ⟨rfl, ?_⟩
      walk_at "go"
      rw [near_take eL]
      have yes : (i = a ∨ i = b) → ∃ acc, upd (upd H td (.frz od (.dT (tieKV L)))) D (.lst (msk (nearN i (L.take j)))) D = some (.lst acc) ∧ acc.length < sizeLine ∧ upd (upd (upd H td (.frz od (.dT (tieKV L)))) D (.lst (msk (nearN i (L.take j))))) D (.lst (acc ++ [V.int ((a : Int) + b - i)])) = upd (upd H td (.frz od (.dT (tieKV L)))) D (.lst (msk (nearN i (L.take j) ++ if i = (a, b).1 ∨ i = (a, b).2 then [(a, b).1 + (a, b).2 - i] else []))) := by
        intro c
        refine ⟨_, upd_same, lacc, ?_⟩
        rw [upd_upd, if_pos c, ← msk_app]
        congr 5
        omega
      refine s_dec (fun e => ?_) (fun e => ?_)
      · walk_at "go"
        exact yes (.inl (by omega))
      · walk_at "go"
        refine s_dec (fun e2 => ?_) (fun e2 => ?_)
        · walk_at "go"
          exact yes (.inr (by omega))
        · rw [if_neg (by show ¬ (i = a ∨ i = b); omega), List.append_nil]
    · rintro H' rfl
      rw [tieKV_len, List.take_length]
      refine ⟨up_ne nD.symm upd_same, ?_⟩
      rw [lock_back hB.own.ti nD]
      have pm := near_perm hB.tell hB.sym hi
      walk_at "go"
      refine s_sortI (SqL.of upd_same) pm filt_le fun q1 hq1 => ?_
      have S1 := (Same.new (o := .lst (msk (nearN i L))) fD).trans (Same.new (o := .lst (msk ((List.range n).filter (R i)))) hq1)
      have e1 : upd (upd H D (.lst (msk (nearN i L)))) q1 (.lst (msk ((List.range n).filter (R i)))) q1 = some (.lst (msk ((List.range n).filter (R i)))) := upd_same
      have f1 : H q1 = none := free_of hq1
      generalize upd (upd H D (.lst (msk (nearN i L)))) q1 (.lst (msk ((List.range n).filter (R i)))) = G1 at S1 e1 ⊢
      have obG1 := S1 _ _ obW
      walk_at "go"
      refine ⟨p, l, _, _, "int", rfl, hB.web.same S1, .int _, ?_, fun b => by rw [webM_len, among_of hi] at b; cases b⟩
      intro j ej hj q2 hq2
      injection ej with ej
      have ji : j = i := by omega
      subst ji
      rw [webM_getD hi, pts_bits hB.le]
      have S2 := S1.trans (Same.new (o := .lst (msk ((List.range n).filter (R j)))) hq2)
      have e12 := up_old (o' := .lst (msk ((List.range n).filter (R j)))) hq2 e1
      have e2 : upd G1 q2 (.lst (msk ((List.range n).filter (R j)))) q2 = some (.lst (msk ((List.range n).filter (R j)))) := upd_same
      have f2 : H q2 = none := S1.free hq2
      have n12 : q1 ≠ q2 := ne_of_none e1 hq2
      generalize upd G1 q2 (.lst (msk ((List.range n).filter (R j)))) = G2 at S2 e12 e2 ⊢
      have obG2 := S2 _ _ obW
      walk_at "go"
      refine u_tiesR (hB.web.same S2) fun q3 xs G3 S3 hq3 e3 hp3 => ?_
      walk_at "go"
      intro q4 hq4
      have f3 : H q3 = none := S2.free hq3
      have f4 : H q4 = none := (S2.trans S3).free hq4
      have n23 : q2 ≠ q3 := ne_of_none e2 hq3
      have n42 : q4 ≠ q2 := (ne_of_none (S3 _ _ e2) hq4).symm
      have n43 : q4 ≠ q3 := (ne_of_none e3 hq4).symm
      have S4 := (S2.trans S3).trans (Same.new (o := .lst [V.ref q2, V.ref q3]) hq4)
      have S24 := S3.trans (Same.new (o := .lst [V.ref q2, V.ref q3]) hq4)
      have e4 : upd G3 q4 (.lst [V.ref q2, V.ref q3]) q4 = some (.lst [V.ref q2, V.ref q3]) := upd_same
      have e14 := S24 _ _ e12
      have e24 := S24 _ _ e2
      have e34 := up_old (o' := .lst [V.ref q2, V.ref q3]) hq4 e3
      have hp4 := hp3.same (Same.new (o := .lst [V.ref q2, V.ref q3]) hq4)
      generalize upd G3 q4 (.lst [V.ref q2, V.ref q3]) = G4 at S4 e4 e14 e24 e34 hp4 ⊢
      have obG4 := S4 _ _ obW
      have hB4 := hB.same S4
      clear S24
      walk_at "go"
      refine u_manyR hB4.web ?_
      walk_at "go"
      refine s_dgetS hB4.own.ob (ownK_many n td) ?_
      walk_at "go"
      refine s_else (by simp) ?_
      walk_at "go"
      refine u_manyR hB4.web ?_
      walk_at "go"
      refine u__law_whole (.int _) ?_
      refine s_bl ?_
      walk_at "go"
      refine s_izip ?_
      walk_at "go"
      refine s_dgetS hB4.own.ob (ownK_ties n td) ?_
      walk_at "go"
      refine s_sortDT hB4.own.ti hB.tell.perm (tiesR_lex n R) fun q6 ys hq6 hp6 => ?_
      walk_at "go"
      intro q5 hq5
      walk_at "go"
      have S6 := (S4.trans (Same.new (o := .lst ys) hq6)).trans (Same.new (o := .lst [V.ref q1, V.ref q6]) hq5)
      have S46 := (Same.new (o := .lst ys) hq6).trans (Same.new (o := .lst [V.ref q1, V.ref q6]) hq5)
      have e56 : upd (upd G4 q6 (.lst ys)) q5 (.lst [V.ref q1, V.ref q6]) q5 = some (.lst [V.ref q1, V.ref q6]) := upd_same
      have e66 : upd (upd G4 q6 (.lst ys)) q5 (.lst [V.ref q1, V.ref q6]) q6 = some (.lst ys) := up_old hq5 upd_same
      have hpy6 := hp6.same (Same.new (o := .lst [V.ref q1, V.ref q6]) hq5)
      have n62 : q6 ≠ q2 := (ne_of_none e24 hq6).symm
      have n63 : q6 ≠ q3 := (ne_of_none e34 hq6).symm
      have n52 : q5 ≠ q2 := (ne_of_none (up_old hq6 e24) hq5).symm
      have n53 : q5 ≠ q3 := (ne_of_none (up_old hq6 e34) hq5).symm
      have n13 : q1 ≠ q3 := ne_of_none e12 hq3
      have e46 := S46 _ _ e4
      have e16 := S46 _ _ e14
      have e26 := S46 _ _ e24
      have e36 := S46 _ _ e34
      have hpx6 := hp4.same S46
      have f6 : H q6 = none := S4.free hq6
      have f5 : H q5 = none := (S4.trans (Same.new (o := .lst ys) hq6)).free hq5
      generalize upd (upd G4 q6 (.lst ys)) q5 (.lst [V.ref q1, V.ref q6]) = G6 at S6 e56 e66 hpy6 e46 e16 e26 e36 hpx6 ⊢
      have nh1 : he ≠ q1 := ne_of_none hhe f1
      have nh2 : he ≠ q2 := ne_of_none hhe f2
      have nh3 : he ≠ q3 := ne_of_none hhe f3
      have nh4 : he ≠ q4 := ne_of_none hhe f4
      have nh5 : he ≠ q5 := ne_of_none hhe f5
      have nh6 : he ≠ q6 := ne_of_none hhe f6
      have smI : ∀ x ∈ (List.range n).filter (R j), x < 1000 := fun x hx => by
        have := List.mem_range.mp (List.mem_filter.mp hx).1
        have := hB.le
        omega
      have lnI : ((List.range n).filter (R j)).length ≤ 30 := Nat.le_trans (List.length_filter_le _ _) (by rw [List.length_range]; exact hB.le)
      have smP : ∀ q ∈ tiesR n R, Small q := fun q hq => by
        have := mem_tiesR.mp (show (q.1, q.2) ∈ tiesR n R from hq)
        have := hB.le
        exact ⟨by omega, by omega⟩
      have lnP := tiesR_le n R hB.le
      refine ⟨q4, q5, [V.ref q2, V.ref q3], [V.ref q1, V.ref q6], rfl, SqL.of e46, SqL.of e56, ?_⟩
      refine for_it (walk_zip (xs := [V.ref q2, V.ref q3]) (ys := [V.ref q1, V.ref q6]) (n := 2) rfl) (fun m σ Y => ∃ (v6 v7 : Option V) (news : List V), σ = [some (.ref p), some (.ref ow), some (.int j), some (.ref he), some (.ref q1), some (.ref q4), v6, v7, none, none] ∧ Stay [he] H Y ∧ Y he = some (.lst (hs ++ news)) ∧ news.length = m ∧ (∀ x ∈ news, HeldAt Y (if m = 1 then q3 :: Av else Av) x) ∧ Y q4 = some (.lst [V.ref q2, V.ref q3]) ∧ Y q5 = some (.lst [V.ref q1, V.ref q6]) ∧ Y q1 = some (.lst (msk ((List.range n).filter (R j)))) ∧ (m = 0 → Y q2 = some (.lst (msk ((List.range n).filter (R j))))) ∧ (m ≤ 1 → Y q3 = some (.lst xs)) ∧ PairsAt Y xs (tiesR n R) ∧ Y q6 = some (.lst ys) ∧ PairsAt Y ys (tiesR n R)) ⟨none, none, [], rfl, Stay.same S6, by rw [List.append_nil]; exact S6 _ _ hhe, rfl, (fun x hx => by cases hx), e46, e56, e16, fun _ => e26, fun _ => e36, hpx6, e66, hpy6⟩ ?_ ?_ ?_
      · rintro m σ Y hm ⟨v6, v7, news, rfl, St, eh, ln, hn, c4, c5, c1, c2, c3, hpx, c6, hpy⟩
        exact ⟨SqL.of c4, SqL.of c5⟩
      · rintro m x σ Y Y' hm ⟨v6, v7, news, rfl, St, eh, ln, hn, c4, c5, c1, c2, c3, hpx, c6, hpy⟩ ⟨T0, y, z, rfl, hT0, rfl, ey, ez⟩
        have m01 : m = 0 ∨ m = 1 := by omega
        rcases m01 with rfl | rfl
        · have ey' : V.ref q2 = y := Option.some.inj ey
          have ez' : V.ref q1 = z := Option.some.inj ez
          subst ey' ez'
          have eN : news = [] := List.eq_nil_of_length_eq_zero ln
          subst eN
          rw [List.append_nil] at eh
          have St0 : Stay [he] H (upd Y T0 (.tup [V.ref q2, V.ref q1])) := Stay.same' St (Same.new hT0)
          have d := Same.new (o := .tup [V.ref q2, V.ref q1]) hT0
          have hT : upd Y T0 (.tup [V.ref q2, V.ref q1]) T0 = some (.tup [V.ref q2, V.ref q1]) := upd_same
          have g1 := d _ _ c1
          have g2 := d _ _ (c2 rfl)
          have g3 := d _ _ (c3 (by omega))
          have g4 := d _ _ c4
          have g5 := d _ _ c5
          have g6 := d _ _ c6
          have gh := d _ _ eh
          have gx := hpx.same d
          have gy := hpy.same d
          clear c1 c2 c3 c4 c5 c6 eh hpx hpy hn St
          generalize upd Y T0 (.tup [V.ref q2, V.ref q1]) = Z at St0 d hT g1 g2 g3 g4 g5 g6 gh gx gy ⊢
          walk_at "go"
          refine s_reprI (SqL.of g2) smI (by omega) ?_
          walk_at "go"
          refine s_reprI (SqL.of g1) smI (by omega) ?_
          walk_at "go"
          refine s_else (by simp) ?_
          walk_at "go"
          refine s_append g2 (by rw [msk_length]; exact Nat.lt_of_le_of_lt lnI (by decide)) ?_
          have StZ : Stay [he] H (upd Z q2 (.lst (msk ((List.range n).filter (R j)) ++ [V.int 0]))) := St0.mut f2
          have w2 : upd Z q2 (.lst (msk ((List.range n).filter (R j)) ++ [V.int 0])) q2 = some (.lst (msk ((List.range n).filter (R j)) ++ [V.int 0])) := upd_same
          have w1 := up_ne (o' := .lst (msk ((List.range n).filter (R j)) ++ [V.int 0])) n12 g1
          have w3 := up_ne (o' := .lst (msk ((List.range n).filter (R j)) ++ [V.int 0])) n23.symm g3
          have w4 := up_ne (o' := .lst (msk ((List.range n).filter (R j)) ++ [V.int 0])) n42 g4
          have w5 := up_ne (o' := .lst (msk ((List.range n).filter (R j)) ++ [V.int 0])) n52 g5
          have w6 := up_ne (o' := .lst (msk ((List.range n).filter (R j)) ++ [V.int 0])) n62 g6
          have wh := up_ne (o' := .lst (msk ((List.range n).filter (R j)) ++ [V.int 0])) nh2 gh
          have wx : PairsAt (upd Z q2 (.lst (msk ((List.range n).filter (R j)) ++ [V.int 0]))) xs (tiesR n R) := PairsAt.upd g2 gx
          have wy : PairsAt (upd Z q2 (.lst (msk ((List.range n).filter (R j)) ++ [V.int 0]))) ys (tiesR n R) := PairsAt.upd g2 gy
          generalize upd Z q2 (.lst (msk ((List.range n).filter (R j)) ++ [V.int 0])) = W at StZ w1 w2 w3 w4 w5 w6 wh wx wy ⊢
          walk_at "go"
          refine s_listOn (.inl (SqL.of w2)) fun c W2 hc S2' ec => ?_
          walk_at "go"
          intro t ht
          walk_at "go"
          have av : ∀ q ∈ q3 :: Av, W q ≠ none := fun q hq => by
            rcases List.mem_cons.mp hq with rfl | hq
            · rw [w3]; intro z; cases z
            · exact StZ.there (by rw [wh]; intro z; cases z) (hAv q hq)
          obtain ⟨held, keep, StF⟩ := turn_end av (List.mem_cons_of_mem _ hmem) StZ wh w2 (fun z => by
            rcases List.mem_cons.mp z with z | z
            · exact n23 z
            · exact hAv _ z f2) told_ints hc S2' ec ht
          refine s_append (up_old ht (S2' _ _ wh)) (Nat.lt_of_le_of_lt (m := 1000) hhl (by decide)) ?_
          refine ⟨_, _, [V.ref t], rfl, StF, upd_same, rfl, ?_, keep _ _ nh4.symm w4, keep _ _ nh5.symm w5, keep _ _ nh1.symm w1, (fun z => by omega), (fun _ => keep _ _ nh3.symm w3), ?_, keep _ _ nh6.symm w6, ?_⟩
          · intro x hx
            rw [List.mem_singleton] at hx
            subst hx
            exact held
          · exact PairsAt.upd (up_old ht (S2' _ _ wh)) ((wx.same S2').same (Same.new ht))
          · exact PairsAt.upd (up_old ht (S2' _ _ wh)) ((wy.same S2').same (Same.new ht))
        · have ey' : V.ref q3 = y := Option.some.inj ey
          have ez' : V.ref q6 = z := Option.some.inj ez
          subst ey' ez'
          have hn' : ∀ x ∈ news, HeldAt Y (q3 :: Av) x := hn
          have St0 : Stay [he] H (upd Y T0 (.tup [V.ref q3, V.ref q6])) := Stay.same' St (Same.new hT0)
          have d := Same.new (o := .tup [V.ref q3, V.ref q6]) hT0
          have hT : upd Y T0 (.tup [V.ref q3, V.ref q6]) T0 = some (.tup [V.ref q3, V.ref q6]) := upd_same
          have g1 := d _ _ c1
          have g3 := d _ _ (c3 (by omega))
          have g4 := d _ _ c4
          have g5 := d _ _ c5
          have g6 := d _ _ c6
          have gh := d _ _ eh
          have gx := hpx.same d
          have gy := hpy.same d
          have gn : ∀ x ∈ news, HeldAt (upd Y T0 (.tup [V.ref q3, V.ref q6])) (q3 :: Av) x := fun x hx => (hn' x hx).stay (List.mem_cons_of_mem _ hmem) eh (Stay.same d)
          clear c1 c2 c3 c4 c5 c6 eh hpx hpy hn hn' St
          generalize upd Y T0 (.tup [V.ref q3, V.ref q6]) = Z at St0 d hT g1 g3 g4 g5 g6 gh gx gy gn ⊢
          walk_at "go"
          refine s_reprP (SqL.of g3) gx smP (by omega) ?_
          walk_at "go"
          refine s_reprP (SqL.of g6) gy smP (by omega) ?_
          walk_at "go"
          refine s_else (by simp) ?_
          walk_at "go"
          have lx := gx.len
          refine s_append g3 (Nat.lt_of_le_of_lt (m := 900) (by omega) (by decide)) ?_
          have StZ : Stay [he] H (upd Z q3 (.lst (xs ++ [V.int 0]))) := St0.mut f3
          have w3 : upd Z q3 (.lst (xs ++ [V.int 0])) q3 = some (.lst (xs ++ [V.int 0])) := upd_same
          have w1 := up_ne (o' := .lst (xs ++ [V.int 0])) n13 g1
          have w4 := up_ne (o' := .lst (xs ++ [V.int 0])) n43 g4
          have w5 := up_ne (o' := .lst (xs ++ [V.int 0])) n53 g5
          have w6 := up_ne (o' := .lst (xs ++ [V.int 0])) n63 g6
          have wh := up_ne (o' := .lst (xs ++ [V.int 0])) nh3 gh
          have wx : PairsAt (upd Z q3 (.lst (xs ++ [V.int 0]))) xs (tiesR n R) := PairsAt.upd g3 gx
          have wy : PairsAt (upd Z q3 (.lst (xs ++ [V.int 0]))) ys (tiesR n R) := PairsAt.upd g3 gy
          have wn : ∀ x ∈ news, HeldAt (upd Z q3 (.lst (xs ++ [V.int 0]))) (q3 :: Av) x := fun x hx => (gn x hx).stay (he := q3) List.mem_cons_self g3 (Stay.upd List.mem_cons_self)
          generalize upd Z q3 (.lst (xs ++ [V.int 0])) = W at StZ w1 w3 w4 w5 w6 wh wx wy wn ⊢
          walk_at "go"
          refine s_listOn (.inl (SqL.of w3)) fun c W2 hc S2' ec => ?_
          walk_at "go"
          intro t ht
          walk_at "go"
          have av : ∀ q ∈ Av, W q ≠ none := fun q hq => StZ.there (by rw [wh]; intro z; cases z) (hAv q hq)
          obtain ⟨held, keep, StF⟩ := turn_end av hmem StZ wh w3 (fun z => hAv _ z f3) (told_pairs wx) hc S2' ec ht
          refine s_append (up_old ht (S2' _ _ wh)) (Nat.lt_of_le_of_lt (m := 1001) (by rw [List.length_append]; omega) (by decide)) ?_
          have stW : Stay [he] W (upd (upd W2 t (.tup [V.ref q3, V.ref c])) he (.lst (hs ++ news ++ [V.ref t]))) := fun b o nb e => keep b o (by simpa using nb) e
          refine ⟨_, _, news ++ [V.ref t], rfl, StF, by rw [← List.append_assoc]; exact upd_same, by rw [List.length_append, ln]; rfl, ?_, keep _ _ nh4.symm w4, keep _ _ nh5.symm w5, keep _ _ nh1.symm w1, (fun z => by omega), (fun z => by omega), ?_, keep _ _ nh6.symm w6, ?_⟩
          · intro x hx
            rw [if_neg (by decide)]
            rcases List.mem_append.mp hx with hx | hx
            · exact ((wn x hx).stay (List.mem_cons_of_mem _ hmem) wh stW).less
            · rw [List.mem_singleton] at hx
              subst hx
              exact held
          · exact PairsAt.upd (up_old ht (S2' _ _ wh)) ((wx.same S2').same (Same.new ht))
          · exact PairsAt.upd (up_old ht (S2' _ _ wh)) ((wy.same S2').same (Same.new ht))
      · rintro σ Y ⟨v6, v7, news, rfl, St, eh, ln, hn, c4, c5, c1, c2, c3, hpx, c6, hpy⟩
        walk_at "go"
        refine k (hs ++ news) Y St eh (by rw [List.length_append]; omega) fun x hx => ?_
        rcases List.mem_append.mp hx with hx | hx
        · exact (hheld x hx).stay hmem hhe St
        · exact hn x hx
-- _law_mixed
theorem ok__law_mixed (T : Txt K mg) : FnG P w K mg base 1 T.a__law_mixed T.d__law_mixed ["_law_cell", "_law_k"] sp__law_mixed := by
  refine okG T.F__law_mixed sc__law_mixed (fun vs H Q E h => ?_) (fun cdv A outer s H vs Q E hr hG h => ?_)
  · (first | (obtain ⟨rfl, _⟩ := h; rfl) | (obtain ⟨_, rfl, _⟩ := h; rfl) | (obtain ⟨_, _, rfl, _⟩ := h; rfl) | (obtain ⟨_, _, _, rfl, _⟩ := h; rfl) | (obtain ⟨_, _, _, _, rfl, _⟩ := h; rfl) | (obtain ⟨_, _, _, _, _, rfl, _⟩ := h; rfl) | (obtain ⟨_, _, _, _, _, _, rfl, _⟩ := h; rfl) | (obtain ⟨_, _, _, _, _, _, _, rfl, _⟩ := h; rfl) | (obtain ⟨_, _, _, _, _, _, _, _, rfl, _⟩ := h; rfl) | (obtain ⟨_, _, _, _, _, _, _, _, _, rfl, _⟩ := h; rfl) | (obtain ⟨_, _, _, _, _, _, _, _, _, _, rfl, _⟩ := h; rfl) | (obtain ⟨_, _, _, _, _, _, _, _, _, _, _, rfl, _⟩ := h; rfl) | (obtain ⟨_, _, _, _, _, _, _, _, _, _, _, _, rfl, _⟩ := h; rfl))
  · have sc := sc__law_mixed
    have hu := hr.units
    have hu1 := hu_of hr
    have hu65 := room65 hr
    have hu2 := room200 hr
    obtain ⟨c, k, rfl, h1, h2, q⟩ := h
    refine ⟨_, (pss_cons (ps_set (i := 2) sc.nd rfl (by first | exact Or.inl rfl | exact Or.inr rfl) (pe_op op_mod (pe_op (kMul (K := K)) (pe_op (kAdd (K := K)) (pe_op (kAdd (K := K)) (pe_op (kAdd (K := K)) (pe_op op_mod (pv 0) pe_int) (pe_op (kMul (K := K)) (pe_op (kMul (K := K)) pe_int (pv 1)) (pv 1))) (pe_op (kMul (K := K)) pe_int (pv 1))) pe_int) pe_int) pe_int))
    (pss_one (ps_ret (pe_op op_fdiv (pe_op op_mod (pe_op (kMul (K := K)) (pv 2) (pe_op (kAdd (K := K)) (pe_op op_mod (pv 2) pe_int) pe_int)) pe_int) pe_int)))), ?_⟩
    walk_at "j0"
    walk_at "go"
    rw [mixN_eq] at q
    exact q
-- _law_number
theorem ok__law_number (T : Txt K mg) : FnG P w K mg base 2 T.a__law_number T.d__law_number ["_law_script", "_law_k"] (sp__law_number K) := by
  refine okG T.F__law_number sc__law_number (fun vs H Q E h => ?_) (fun cdv A outer s H vs Q E hr hG h => ?_)
  · (first | (obtain ⟨rfl, _⟩ := h; rfl) | (obtain ⟨_, rfl, _⟩ := h; rfl) | (obtain ⟨_, _, rfl, _⟩ := h; rfl) | (obtain ⟨_, _, _, rfl, _⟩ := h; rfl) | (obtain ⟨_, _, _, _, rfl, _⟩ := h; rfl) | (obtain ⟨_, _, _, _, _, rfl, _⟩ := h; rfl) | (obtain ⟨_, _, _, _, _, _, rfl, _⟩ := h; rfl) | (obtain ⟨_, _, _, _, _, _, _, rfl, _⟩ := h; rfl) | (obtain ⟨_, _, _, _, _, _, _, _, rfl, _⟩ := h; rfl) | (obtain ⟨_, _, _, _, _, _, _, _, _, rfl, _⟩ := h; rfl) | (obtain ⟨_, _, _, _, _, _, _, _, _, _, rfl, _⟩ := h; rfl) | (obtain ⟨_, _, _, _, _, _, _, _, _, _, _, rfl, _⟩ := h; rfl) | (obtain ⟨_, _, _, _, _, _, _, _, _, _, _, _, rfl, _⟩ := h; rfl))
  · have sc := sc__law_number
    have hu := hr.units
    have hu1 := hu_of hr
    have hu65 := room65 hr
    have hu2 := room200 hr
    obtain ⟨a, ns, k, rfl, hS, hk, q⟩ := h
    refine ⟨_, (pss_cons (ps_set (i := 2) sc.nd rfl (by first | exact Or.inl rfl | exact Or.inr rfl) pe_int)
    (pss_cons (ps_if (pt_cmpR op_gt (pe_callB (kLen (K := K)) (by rfl) T.z_len bt_len (pa_cons (pv 0) pa_nil)) pe_int (nomark _)) (pss_one (ps_set (i := 2) sc.nd rfl (by first | exact Or.inl rfl | exact Or.inr rfl) (pe_ix (kIx (K := K)) (pv 0) (pe_op op_mod (pv 1) (pe_callB (kLen (K := K)) (by rfl) T.z_len bt_len (pa_cons (pv 0) pa_nil))) (fun _ _ => rfl)))) pss_nil)
    (pss_one (ps_ret (pe_cl (ok__law_mixed T) (hr.mono (by decide)) hG (by rfl) T.g__law_mixed T.F__law_mixed.kp T.b__law_mixed (takes_of rfl rfl rfl rfl) (pa_cons (pv 2) (pa_cons (pv 1) pa_nil))))))), ?_⟩
    walk_at "j0"
    walk_at "go"
    refine s_lenL (.inl hS) ?_
    walk_at "go"
    rw [List.length_map]
    refine s_dec (fun b => ?_) (fun b => ?_)
    · have ne : ns ≠ [] := fun z => by rw [z] at b; simp at b
      have hl : 0 < ns.length := List.length_pos_iff.mpr ne
      have hm : k % ns.length < ns.length := Nat.mod_lt _ hl
      walk_at "go"
      refine s_lenL (.inl hS) ?_
      walk_at "go"
      rw [List.length_map]
      refine s_I (by show (0 : Int) < _; omega) ?_
      have e1 : (k : Int) % (ns.length : Int) = ((k % ns.length : Nat) : Int) := by omega
      rw [e1]
      have e2 : (ns.map V.int)[k % ns.length]? = some (V.int (numC ns k)) := by
        unfold numC
        rw [if_neg ne, List.getElem?_map, List.getElem?_eq_getElem hm, List.getD_eq_getElem?_getD, List.getElem?_eq_getElem hm]
        rfl
      refine s_ixL hS (atI_nat e2) ?_
      walk_at "go"
      exact u__law_mixed (by omega) (by omega) q
    · have e : ns = [] := List.eq_nil_of_length_eq_zero (by omega)
      walk_at "go"
      refine u__law_mixed (by omega) (by omega) ?_
      have e2 : numN ns k = mixN 0 k := by unfold numN numC; rw [if_pos e]
      rw [e2] at q
      exact q
-- _law_size_refused
theorem ok__law_size_refused (T : Txt K mg) : FnG P w K mg base 4 T.a__law_size_refused T.d__law_size_refused ["_law_thing"] (sp__law_size_refused K) := by
  refine okG T.F__law_size_refused sc__law_size_refused (fun vs H Q E h => ?_) (fun cdv A outer s H vs Q E hr hG h => ?_)
  · (first | (obtain ⟨rfl, _⟩ := h; rfl) | (obtain ⟨_, rfl, _⟩ := h; rfl) | (obtain ⟨_, _, rfl, _⟩ := h; rfl) | (obtain ⟨_, _, _, rfl, _⟩ := h; rfl) | (obtain ⟨_, _, _, _, rfl, _⟩ := h; rfl) | (obtain ⟨_, _, _, _, _, rfl, _⟩ := h; rfl) | (obtain ⟨_, _, _, _, _, _, rfl, _⟩ := h; rfl) | (obtain ⟨_, _, _, _, _, _, _, rfl, _⟩ := h; rfl) | (obtain ⟨_, _, _, _, _, _, _, _, rfl, _⟩ := h; rfl) | (obtain ⟨_, _, _, _, _, _, _, _, _, rfl, _⟩ := h; rfl) | (obtain ⟨_, _, _, _, _, _, _, _, _, _, rfl, _⟩ := h; rfl) | (obtain ⟨_, _, _, _, _, _, _, _, _, _, _, rfl, _⟩ := h; rfl) | (obtain ⟨_, _, _, _, _, _, _, _, _, _, _, _, rfl, _⟩ := h; rfl))
  · have sc := sc__law_size_refused
    have hu := hr.units
    have hu1 := hu_of hr
    have hu65 := room65 hr
    have hu2 := room200 hr
    obtain ⟨x, m, rfl, hx, b, k⟩ := h
    refine ⟨_, (pss_cons (ps_set (i := 1) sc.nd rfl (by first | exact Or.inl rfl | exact Or.inr rfl) pe_non)
    (pss_cons (kTry (K := K) (i := 2) (j := 1) (Wout := fun _ _ _ _ => False) rfl rfl rfl sc.nd rfl rfl rfl rfl (by decide) ⟨rfl, by decide, .inl T.g_JoinError⟩ takes0 rfl (fun W pn xe tk hp => (pss_one (ps_expr (pe_mkG T.mk_Web (ok_Web_init T) (hr.mono (by decide)) hG (by rfl) T.g_Web T.b_Web_init tk (pa_cons (pv 0) pa_nil))))))
    (pss_one (ps_ret (pe_and (pe_cmpR op_notN1 (pv 1) pe_non (nomark _)) (pe_one (pe_cmpR (kEq (K := K) hu) (pe_cl (ok__law_kind T) (hr.mono (by decide)) hG (by rfl) T.g__law_kind T.F__law_kind.kp T.b__law_kind (takes_of rfl rfl rfl rfl) (pa_cons (pv 1) pa_nil)) pe_str (nomark _)))))))), ?_⟩
    walk_at "j0"
    walk_at "go"
    refine u_newWebE hx b fun H1 S1 => ?_
    refine s_keep (exm_own T.be_JoinError T.hx_JoinError T.te_JoinError T.sb_BadSize_JoinError) fun a ha => ?_
    dsimp only [List.set_cons_succ, List.set_cons_zero]
    walk_at "go"
    refine u__law_kind (exc_BadSize T upd_same) fun H2 S2 => ?_
    walk_at "go"
    rw [show decide (kindT true false false false false false false false true = Str.ofString "size") = true by decide +kernel]
    exact k _ ((S1.trans (Same.new ha)).trans S2)
-- law
theorem ok_law (T : Txt K mg) : FnG P w K mg base 8 T.a_law T.d_law ["_law_script"] (sp_law K) := by
  refine okG T.F_law sc_law (fun vs H Q E h => ?_) (fun cdv A outer s H vs Q E hr hG h => ?_)
  · (first | (obtain ⟨rfl, _⟩ := h; rfl) | (obtain ⟨_, rfl, _⟩ := h; rfl) | (obtain ⟨_, _, rfl, _⟩ := h; rfl) | (obtain ⟨_, _, _, rfl, _⟩ := h; rfl) | (obtain ⟨_, _, _, _, rfl, _⟩ := h; rfl) | (obtain ⟨_, _, _, _, _, rfl, _⟩ := h; rfl) | (obtain ⟨_, _, _, _, _, _, rfl, _⟩ := h; rfl) | (obtain ⟨_, _, _, _, _, _, _, rfl, _⟩ := h; rfl) | (obtain ⟨_, _, _, _, _, _, _, _, rfl, _⟩ := h; rfl) | (obtain ⟨_, _, _, _, _, _, _, _, _, rfl, _⟩ := h; rfl) | (obtain ⟨_, _, _, _, _, _, _, _, _, _, rfl, _⟩ := h; rfl) | (obtain ⟨_, _, _, _, _, _, _, _, _, _, _, rfl, _⟩ := h; rfl) | (obtain ⟨_, _, _, _, _, _, _, _, _, _, _, _, rfl, _⟩ := h; rfl))
  · have sc := sc_law
    have hu := hr.units
    have hu1 := hu_of hr
    have hu65 := room65 hr
    have hu2 := room200 hr
    obtain ⟨a, ns, rfl, hS, hl, k⟩ := h
    have clW := T.cl_Web
    refine ⟨_, (pss_cons (ps_set (i := 1) sc.nd rfl (by first | exact Or.inl rfl | exact Or.inr rfl) (pe_lst pa_nil))
    (pss_cons (ps_set (i := 2) sc.nd rfl (by first | exact Or.inl rfl | exact Or.inr rfl) (pe_lst pa_nil))
    (pss_cons (ps_for (passes_of rfl) rfl (pi_range1 (by rfl) T.z_range (pa_cons pe_int pa_nil)) (pg_name (i := 3) sc.nd rfl (by first | exact Or.inl rfl | exact Or.inr rfl))
    (pss_cons (ps_set (i := 4) sc.nd rfl (by first | exact Or.inl rfl | exact Or.inr rfl) (pe_cl (ok__law_number T) (hr.mono (by decide)) hG (by rfl) T.g__law_number T.F__law_number.kp T.b__law_number (takes_of rfl rfl rfl rfl) (pa_cons (pv 0) (pa_cons (pv 3) pa_nil))))
    (pss_cons (ps_set (i := 5) sc.nd rfl (by first | exact Or.inl rfl | exact Or.inr rfl) (pe_ix (kIx (K := K)) (pe_lst (pa_cons (pe_op (kAdd (K := K)) pe_int (pe_op op_mod (pv 4) pe_int)) (pa_cons (pe_op (kAdd (K := K)) pe_int (pe_op op_mod (pv 4) pe_int)) (pa_cons pe_int (pa_cons pe_int pa_nil))))) (pe_op op_mod (pe_op op_fdiv (pe_cl (ok__law_number T) (hr.mono (by decide)) hG (by rfl) T.g__law_number T.F__law_number.kp T.b__law_number (takes_of rfl rfl rfl rfl) (pa_cons (pv 0) (pa_cons pe_int pa_nil))) pe_int) pe_int) (fun _ _ => rfl)))
    (pss_cons (ps_expr (pe_bm PySem.F.plainAttrs_list PySem.F.slot_list_append PySem.F.type_list_append mt_append (pv 1) (pa_cons (pe_mkG T.mk_Web (ok_Web_init T) (hr.mono (by decide)) hG (by rfl) T.g_Web T.b_Web_init (takes_of rfl rfl rfl rfl) (pa_cons (pv 5) pa_nil)) pa_nil)))
    (pss_one (ps_expr (pe_bm PySem.F.plainAttrs_list PySem.F.slot_list_append PySem.F.type_list_append mt_append (pv 2) (pa_cons (pe_disp (pps_cons pe_str (pv 5) (pps_cons pe_str pe_dnewT pps_nil)) (by rfl) (by rfl) (fun z => by cases z) (by decide)) pa_nil))))))))
    (pss_cons (ps_set (i := 6) sc.nd rfl (by first | exact Or.inl rfl | exact Or.inr rfl) (pe_lst pa_nil))
    (pss_cons (ps_for (passes_of rfl) rfl (pi_range1 (by rfl) T.z_range (pa_cons (pe_op (kAdd (K := K)) pe_int (pe_callB (kMin2 rfl) (by rfl) T.z_min bt_min (pa_cons (pe_callB (kLen (K := K)) (by rfl) T.z_len bt_len (pa_cons (pv 0) pa_nil)) (pa_cons pe_int pa_nil)))) pa_nil)) (pg_name (i := 3) sc.nd rfl (by first | exact Or.inl rfl | exact Or.inr rfl))
    (pss_cons (ps_set (i := 7) sc.nd rfl (by first | exact Or.inl rfl | exact Or.inr rfl) (pe_cl (ok__law_number T) (hr.mono (by decide)) hG (by rfl) T.g__law_number T.F__law_number.kp T.b__law_number (takes_of rfl rfl rfl rfl) (pa_cons (pv 0) (pa_cons (pe_op (kAdd (K := K)) (pv 3) pe_int) pa_nil))))
    (pss_cons (ps_set (i := 8) sc.nd rfl (by first | exact Or.inl rfl | exact Or.inr rfl) (pe_cl (ok__law_number T) (hr.mono (by decide)) hG (by rfl) T.g__law_number T.F__law_number.kp T.b__law_number (takes_of rfl rfl rfl rfl) (pa_cons (pv 0) (pa_cons (pe_op (kAdd (K := K)) (pe_op (kMul (K := K)) pe_int (pv 3)) pe_int) pa_nil))))
    (pss_cons (ps_set (i := 9) sc.nd rfl (by first | exact Or.inl rfl | exact Or.inr rfl) (pe_callTy kInt1 (by rfl) T.z_int bt_int (pa_cons (pe_cmpR (kEq (K := K) hu) (pe_op op_mod (pv 7) pe_int) pe_int (nomark _)) pa_nil)))
    (pss_cons (ps_set (i := 10) sc.nd rfl (by first | exact Or.inl rfl | exact Or.inr rfl) (pe_ix (kIx (K := K)) (pv 2) (pv 9) (fun _ _ => rfl)))
    (pss_cons (ps_set (i := 11) sc.nd rfl (by first | exact Or.inl rfl | exact Or.inr rfl) (pe_op op_mod (pe_op op_fdiv (pv 7) pe_int) (pe_dget hu1 (pv 10) pe_str (fun _ _ => rfl))))
    (pss_cons (ps_set (i := 12) sc.nd rfl (by first | exact Or.inl rfl | exact Or.inr rfl) (pe_op op_mod (pe_op op_fdiv (pv 7) pe_int) (pe_dget hu1 (pv 10) pe_str (fun _ _ => rfl))))
    (pss_cons (ps_set (i := 13) sc.nd rfl (by first | exact Or.inl rfl | exact Or.inr rfl) (pe_ix (kIx (K := K)) (pe_lst (pa_cons pe_non (pa_cons pe_bl (pa_cons pe_bl (pa_cons pe_str (pa_cons (pe_lst (pa_cons pe_int pa_nil)) (pa_cons (pe_tup (pa_cons pe_int pa_nil)) (pa_cons pe_dnewT (pa_cons (pe_un un_neg pe_int) (pa_cons (pe_dget hu1 (pv 10) pe_str (fun _ _ => rfl)) (pa_cons (pe_op (kAdd (K := K)) pe_int (pv 8)) pa_nil))))))))))) (pe_op op_mod (pv 8) pe_int) (fun _ _ => rfl)))
    (pss_cons (ps_set (i := 14) sc.nd rfl (by first | exact Or.inl rfl | exact Or.inr rfl) (pe_ix (kIx (K := K)) (pe_lst (pa_cons (pe_tup (pa_cons (pv 11) (pa_cons (pv 12) pa_nil))) (pa_cons (pe_tup (pa_cons (pv 11) (pa_cons (pv 12) pa_nil))) (pa_cons (pe_tup (pa_cons (pv 11) (pa_cons (pv 12) pa_nil))) (pa_cons (pe_tup (pa_cons (pv 13) (pa_cons (pv 12) pa_nil))) (pa_cons (pe_tup (pa_cons (pv 11) (pa_cons (pv 13) pa_nil))) (pa_cons (pe_tup (pa_cons (pv 11) (pa_cons (pv 11) pa_nil))) pa_nil))))))) (pe_op op_mod (pe_op op_fdiv (pv 7) pe_int) pe_int) (fun _ _ => rfl)))
    (pss_cons (ps_set (i := 15) sc.nd rfl (by first | exact Or.inl rfl | exact Or.inr rfl) (pe_ix (kIx (K := K)) (pe_lst (pa_cons pe_str (pa_cons pe_str (pa_cons pe_str (pa_cons pe_str (pa_cons pe_str (pa_cons pe_str pa_nil))))))) (pe_op op_mod (pe_op op_fdiv (pv 8) pe_int) pe_int) (fun _ _ => rfl)))
    (pss_cons (ps_if (pt_not (pt_val (pe_cl (ok__law_done T) (hr.mono (by decide)) hG (by rfl) T.g__law_done T.F__law_done.kp T.b__law_done (takes_of rfl rfl rfl rfl) (pa_cons (pe_ix (kIx (K := K)) (pv 1) (pv 9) (fun _ _ => rfl)) (pa_cons (pv 10) (pa_cons (pv 15) (pa_cons (pe_ix (kIx (K := K)) (pv 14) pe_int (fun _ _ => rfl)) (pa_cons (pe_ix (kIx (K := K)) (pv 14) pe_int (fun _ _ => rfl)) pa_nil)))))))) (pss_one (ps_ret pe_bl)) pss_nil)
    (pss_cons (ps_if (pt_not (pt_val (pe_cl (ok__law_looked T) (hr.mono (by decide)) hG (by rfl) T.g__law_looked T.F__law_looked.kp T.b__law_looked (takes_of rfl rfl rfl rfl) (pa_cons (pe_ix (kIx (K := K)) (pv 1) (pv 9) (fun _ _ => rfl)) (pa_cons (pv 10) (pa_cons (pv 11) (pa_cons (pv 6) pa_nil))))))) (pss_one (ps_ret pe_bl)) pss_nil)
    (pss_consJ (ps_if (pt_cmpR (kEq (K := K) hu) (pe_op op_mod (pv 8) pe_int) pe_int (nomark _)) (pss_one (ps_set (i := 13) sc.nd rfl (by first | exact Or.inl rfl | exact Or.inr rfl) (pe_dget hu1 (pv 10) pe_str (fun _ _ => rfl)))) pss_nil)
    (pss_cons (ps_if (PW.pt (pw_or (pt_not (pt_val (pe_cl (ok__law_beside_refused T) (hr.mono (by decide)) hG (by rfl) T.g__law_beside_refused T.F__law_beside_refused.kp T.b__law_beside_refused (takes_of rfl rfl rfl rfl) (pa_cons (pe_ix (kIx (K := K)) (pv 1) (pv 9) (fun _ _ => rfl)) (pa_cons (pv 13) pa_nil))))) (pw_or1 (pt_not (pt_val (pe_cl (ok__law_done T) (hr.mono (by decide)) hG (by rfl) T.g__law_done T.F__law_done.kp T.b__law_done (takes_of rfl rfl rfl rfl) (pa_cons (pe_ix (kIx (K := K)) (pv 1) (pv 9) (fun _ _ => rfl)) (pa_cons (pv 10) (pa_cons pe_str (pa_cons (pv 12) (pa_cons (pv 11) pa_nil))))))))))) (pss_one (ps_ret pe_bl)) pss_nil)
    (pss_one (ps_if (PW.pt (pw_and (pt_cmpR (kEq (K := K) hu) (pe_op op_mod (pe_op op_fdiv (pv 8) pe_int) pe_int) pe_int (nomark _)) (pw_and1 (pt_not (pt_val (pe_cl (ok__law_looked T) (hr.mono (by decide)) hG (by rfl) T.g__law_looked T.F__law_looked.kp T.b__law_looked (takes_of rfl rfl rfl rfl) (pa_cons (pe_ix (kIx (K := K)) (pv 1) (pe_op op_sub pe_int (pv 9)) (fun _ _ => rfl)) (pa_cons (pe_ix (kIx (K := K)) (pv 2) (pe_op op_sub pe_int (pv 9)) (fun _ _ => rfl)) (pa_cons pe_int (pa_cons (pv 6) pa_nil)))))))))) (pss_one (ps_ret pe_bl)) pss_nil))))))))))))))))
    (pss_cons (ps_set (i := 16) sc.nd rfl (by first | exact Or.inl rfl | exact Or.inr rfl) (pe_lst (pa_cons pe_int (pa_cons (pe_un un_neg pe_int) (pa_cons pe_int (pa_cons pe_bl (pa_cons pe_bl (pa_cons pe_non (pa_cons pe_str (pa_cons (pe_lst (pa_cons pe_int pa_nil)) (pa_cons (pe_tup (pa_cons pe_int pa_nil)) (pa_cons pe_dnewT (pa_cons (pe_op (kAdd (K := K)) pe_int (pe_cl (ok__law_number T) (hr.mono (by decide)) hG (by rfl) T.g__law_number T.F__law_number.kp T.b__law_number (takes_of rfl rfl rfl rfl) (pa_cons (pv 0) (pa_cons pe_int pa_nil)))) (pa_cons (pe_op op_pow pe_int pe_int) pa_nil))))))))))))))
    (pss_cons (ps_for (passes_of rfl) rfl (kTup (K := K) (pe_tup (pa_cons pe_int (pa_cons pe_int pa_nil)))) (pg_name (i := 3) sc.nd rfl (by first | exact Or.inl rfl | exact Or.inr rfl))
    (pss_one (ps_if (pt_not (pt_val (pe_cl (ok__law_size_refused T) (hr.mono (by decide)) hG (by rfl) T.g__law_size_refused T.F__law_size_refused.kp T.b__law_size_refused (takes_of rfl rfl rfl rfl) (pa_cons (pe_ix (kIx (K := K)) (pv 16) (pe_op op_mod (pe_cl (ok__law_number T) (hr.mono (by decide)) hG (by rfl) T.g__law_number T.F__law_number.kp T.b__law_number (takes_of rfl rfl rfl rfl) (pa_cons (pv 0) (pa_cons (pv 3) pa_nil))) pe_int) (fun _ _ => rfl)) pa_nil)))) (pss_one (ps_ret pe_bl)) pss_nil)))
    (pss_one (ps_ret (pe_cmpR (kEq (K := K) hu) (pe_lc (own := [("_law_pair", 14)]) rfl sc.nd (kList (K := K) (pv 6)) (blkOk_by (own := [("_law_pair", 14)]) (N := ["_law_script", "_law_webs", "_law_owns", "_law_k", "_law_number_here", "_law_many", "_law_held", "_law_cell", "_law_more", "_law_which", "_law_own", "_law_one", "_law_other", "_law_odd", "_law_pair", "_law_word", "_law_far"]) (sc := defScope st_law) (by decide +kernel)) (fun _ _ _ _ _ => (pg_name (i := 14) sc.nd rfl (Or.inl rfl))) (fun _ _ _ _ _ => (pts_one (pt_cmpR (kNe (K := K) hu) (pe_ix (kIx (K := K)) (pv 14) pe_int (fun _ _ => rfl)) (pe_ix (kIx (K := K)) (pv 14) pe_int (fun _ _ => rfl)) (nomark _)))) (fun _ _ _ _ _ => (pv 14))) (pe_lst pa_nil) (nomark _))))))))))), ?_⟩
    walk_at "j0"
    walk_at "go"
    intro wl hwl
    walk_at "go"
    intro ol hol
    walk_at "go"
    have nwo : wl ≠ ol := ne_of_none upd_same hol
    have fol : H ol = none := free_of hol
    have SA := (Same.new (o := .lst []) hwl).trans (Same.new (o := .lst []) hol)
    refine for_range (lo := 0) (n := 2) (fun i σ H' => ∃ (v : Nat → Option V) (P Lc Oc Tc n : Nat → Nat), σ = [some (.ref a), some (.ref wl), some (.ref ol), v 3, v 4, v 5, none, none, none, none, none, none, none, none, none, none, none] ∧ Same H H' ∧ H' wl = some (.lst ((List.range i).map fun b => V.ref (P b))) ∧ H' ol = some (.lst ((List.range i).map fun b => V.ref (Oc b))) ∧ (∀ b, b < i → Both T.c_Web H' (P b) (Lc b) (Oc b) (Tc b) (n b) (fun _ _ => false) []) ∧ (∀ b, b < i → H (Lc b) = none ∧ H (Oc b) = none ∧ H (Tc b) = none) ∧ ([wl, ol] ++ (List.range i).flatMap fun b => [Lc b, Oc b, Tc b]).Nodup) ⟨fun _ => none, fun _ => 0, fun _ => 0, fun _ => 0, fun _ => 0, fun _ => 0, rfl, SA, up_ne nwo upd_same, upd_same, fun b hb => by omega, fun b hb => by omega, by simpa using nwo⟩ ?_ ?_
    · rintro i σ H' hi ⟨v, P, Lc, Oc, Tc, n, rfl, S, ewl, eol, hB, hF, hnd⟩
      rw [Int.zero_add]
      walk_at "go"
      refine u__law_number (S.seq hS) (by omega) ?_
      generalize numN ns i = num
      walk_at "go"
      intro c0 hc0
      walk_at "go"
      refine u__law_number (k := 2) ((S.trans (Same.new hc0)).seq hS) (by omega) ?_
      walk_at "go"
      have hm : ∃ m : Nat, ([.int (1 + (num : Int) % 30), .int (1 + (num : Int) % 5), .int 30, .int 28] : List V)[numN ns 2 / 4 % 4]? = some (.int m) ∧ 1 ≤ m ∧ m ≤ 30 := by
        have : numN ns 2 / 4 % 4 = 0 ∨ numN ns 2 / 4 % 4 = 1 ∨ numN ns 2 / 4 % 4 = 2 ∨ numN ns 2 / 4 % 4 = 3 := by omega
        rcases this with e | e | e | e <;> rw [e]
        · exact ⟨1 + num % 30, by simp, by omega, by omega⟩
        · exact ⟨1 + num % 5, by simp, by omega, by omega⟩
        · exact ⟨30, rfl, by decide, by decide⟩
        · exact ⟨28, rfl, by decide, by decide⟩
      obtain ⟨m, em, m1, m30⟩ := hm
      rw [show (numN ns 2 : Int) / 4 % 4 = ((numN ns 2 / 4 % 4 : Nat) : Int) by omega]
      refine s_ixL (SqL.of upd_same) (atI_nat em) ?_
      have S1 := S.trans (Same.new (o := .lst [.int (1 + (num : Int) % 30), .int (1 + (num : Int) % 5), .int 30, .int 28]) hc0)
      have ewl1 := up_old (o' := .lst [.int (1 + (num : Int) % 30), .int (1 + (num : Int) % 5), .int 30, .int 28]) hc0 ewl
      have eol1 := up_old (o' := .lst [.int (1 + (num : Int) % 30), .int (1 + (num : Int) % 5), .int 30, .int 28]) hc0 eol
      have hB1 := fun b hb => (hB b hb).same (Same.new (o := .lst [.int (1 + (num : Int) % 30), .int (1 + (num : Int) % 5), .int 30, .int 28]) hc0)
      generalize upd H' c0 (.lst [.int (1 + (num : Int) % 30), .int (1 + (num : Int) % 5), .int 30, .int 28]) = G1 at S1 ewl1 eol1 hB1 ⊢
      clear em hc0 hB ewl eol S
      walk_at "go"
      refine u_newWeb m1 m30 fun p l G2 hp hlN S2 hW => ?_
      have ewl2 := S2 _ _ ewl1
      have eol2 := S2 _ _ eol1
      walk_at "go"
      refine s_append ewl2 (by rw [List.length_map, List.length_range]; exact Nat.lt_of_lt_of_le hi (by decide)) ?_
      have old : ∀ q ∈ [wl, ol] ++ (List.range i).flatMap fun b => [Lc b, Oc b, Tc b], G1 q ≠ none := by
        intro q hq
        rcases List.mem_append.mp hq with hq | hq
        · simp only [List.mem_cons, List.not_mem_nil, or_false] at hq
          rcases hq with rfl | rfl
          · rw [ewl1]; intro z; cases z
          · rw [eol1]; intro z; cases z
        · obtain ⟨b, hb, hq⟩ := List.mem_flatMap.mp hq
          have B := hB1 b (List.mem_range.mp hb)
          simp only [List.mem_cons, List.not_mem_nil, or_false] at hq
          rcases hq with rfl | rfl | rfl
          · rw [B.web.li]; intro z; cases z
          · rw [B.own.ob]; intro z; cases z
          · rw [B.own.ti]; intro z; cases z
      have ndi : ∀ b, b < i → Lc b ≠ wl ∧ Oc b ≠ wl ∧ Tc b ≠ wl ∧ Lc b ≠ ol ∧ Oc b ≠ ol ∧ Tc b ≠ ol := by
        intro b hb
        have nd2 := (List.nodup_append.mp hnd).2.2
        have m1 : ∀ q ∈ [Lc b, Oc b, Tc b], q ∈ (List.range i).flatMap fun b => [Lc b, Oc b, Tc b] := fun q hq => List.mem_flatMap.mpr ⟨b, List.mem_range.mpr hb, hq⟩
        exact ⟨fun z => nd2 wl (by simp) _ (m1 _ (by simp)) z.symm, fun z => nd2 wl (by simp) _ (m1 _ (by simp)) z.symm, fun z => nd2 wl (by simp) _ (m1 _ (by simp)) z.symm, fun z => nd2 ol (by simp) _ (m1 _ (by simp)) z.symm, fun z => nd2 ol (by simp) _ (m1 _ (by simp)) z.symm, fun z => nd2 ol (by simp) _ (m1 _ (by simp)) z.symm⟩
      have npw : ∀ b, b < i → P b ≠ wl ∧ P b ≠ ol := by
        intro b hb
        obtain ⟨dx, e⟩ := (hB1 b hb).web.ob
        exact ⟨ne_of e ewl1 (by intro z; cases z), ne_of e eol1 (by intro z; cases z)⟩
      have pw : p ≠ wl := (ne_of_none ewl1 hp).symm
      have lw : l ≠ wl := (ne_of_none ewl1 hlN).symm
      have po : p ≠ ol := (ne_of_none eol1 hp).symm
      have lo' : l ≠ ol := (ne_of_none eol1 hlN).symm
      have St1 : Stay [wl] G1 (upd G2 wl (.lst ((List.range i).map (fun b => V.ref (P b)) ++ [V.ref p]))) := (Stay.same S2).trans (Stay.upd List.mem_cons_self)
      have SW : Same H (upd G2 wl (.lst ((List.range i).map (fun b => V.ref (P b)) ++ [V.ref p]))) := Same.mut (S1.trans S2) hwl
      have ewl3 : upd G2 wl (.lst ((List.range i).map (fun b => V.ref (P b)) ++ [V.ref p])) wl = some (.lst ((List.range i).map (fun b => V.ref (P b)) ++ [V.ref p])) := upd_same
      have eol3 := up_ne (o' := .lst ((List.range i).map (fun b => V.ref (P b)) ++ [V.ref p])) nwo.symm eol2
      have hW3 := hW.off (o := .lst ((List.range i).map (fun b => V.ref (P b)) ++ [V.ref p])) pw lw
      generalize upd G2 wl (.lst ((List.range i).map (fun b => V.ref (P b)) ++ [V.ref p])) = W at St1 SW ewl3 eol3 hW3 ⊢
      walk_at "go"
      refine s_ownNew rfl fun ow td W2 how htd S3 hO => ?_
      walk_at "go"
      refine s_append (S3 _ _ eol3) (by rw [List.length_map, List.length_range]; exact Nat.lt_of_lt_of_le hi (by decide)) ?_
      have ow1 : G1 ow = none := by
        cases e : G1 ow with
        | none => rfl
        | some o =>
          by_cases z : ow = wl
          · subst z; rw [ewl3] at how; cases how
          · rw [St1 _ _ (by simpa using z) e] at how; cases how
      have td1 : G1 td = none := by
        cases e : G1 td with
        | none => rfl
        | some o =>
          by_cases z : td = wl
          · subst z; rw [ewl3] at htd; cases htd
          · rw [St1 _ _ (by simpa using z) e] at htd; cases htd
      have oo : ow ≠ ol := (ne_of_none eol3 how).symm
      have to : td ≠ ol := (ne_of_none eol3 htd).symm
      have St2 : Stay [wl, ol] G1 (upd W2 ol (.lst ((List.range i).map (fun b => V.ref (Oc b)) ++ [V.ref ow]))) := fun b o nb e => by
        simp only [List.mem_cons, List.not_mem_nil, or_false, not_or] at nb
        exact up_ne nb.2 (S3 _ _ (St1 _ _ (by simpa using nb.1) e))
      refine ⟨fun k => [none, none, none, some (.int i), some (.int num), some (.int m)].getD k none, setAt P i p, setAt Lc i l, setAt Oc i ow, setAt Tc i td, setAt n i m, rfl, Same.mut (SW.trans S3) fol, ?_, ?_, ?_, ?_, ?_⟩
      · rw [map_setAt]
        exact up_ne nwo (S3 _ _ ewl3)
      · rw [map_setAt]
        exact upd_same
      · intro b hb
        by_cases e : b = i
        · subst e
          rw [setAt_eq, setAt_eq, setAt_eq, setAt_eq, setAt_eq]
          exact ⟨(hW3.same S3).off po lo', hO.off oo to, tell_nil m, ⟨fun _ _ => rfl, fun _ => rfl⟩, m30, m1⟩
        · rw [setAt_ne e, setAt_ne e, setAt_ne e, setAt_ne e, setAt_ne e]
          have hb' : b < i := by omega
          obtain ⟨d1, d2, d3, d4, d5, d6⟩ := ndi b hb'
          obtain ⟨d7, d8⟩ := npw b hb'
          exact (hB1 b hb').stay St2 (by simp [d7, d8]) (by simp [d1, d4]) (by simp [d2, d5]) (by simp [d3, d6])
      · intro b hb
        by_cases e : b = i
        · subst e
          rw [setAt_eq, setAt_eq, setAt_eq]
          exact ⟨S1.free hlN, S1.free ow1, S1.free td1⟩
        · rw [setAt_ne e, setAt_ne e, setAt_ne e]
          exact hF b (by omega)
      · refine nd_setAt hnd (fun z => old _ z hlN) (fun z => old _ z ow1) (fun z => old _ z td1) (ne_of_none hW3.li how) (ne_of_none hW3.li htd) hO.ne
    · rintro σ H' ⟨v, P, Lc, Oc, Tc, n, rfl, S, ewl, eol, hB, hF, hnd⟩
      walk_at "go"
      intro he hhe
      have Tw : Two T.c_Web H (upd H' he (.lst [])) ⟨P, Lc, Oc, Tc, wl, ol, he⟩ n (fun _ _ _ => false) (fun _ => []) [] := by
        have b0 := hB 0 (by decide)
        have b1 := hB 1 (by decide)
        have hl0 := (ne_of_none b0.web.li hhe).symm
        have ho0 := (ne_of_none b0.own.ob hhe).symm
        have ht0 := (ne_of_none b0.own.ti hhe).symm
        have hl1 := (ne_of_none b1.web.li hhe).symm
        have ho1 := (ne_of_none b1.own.ob hhe).symm
        have ht1 := (ne_of_none b1.own.ti hhe).symm
        have hw := (ne_of_none ewl hhe).symm
        have hol' := (ne_of_none eol hhe).symm
        refine ⟨fun b hb => (hB b hb).same (Same.new hhe), up_old hhe ewl, up_old hhe eol, upd_same, S.trans (Same.new hhe), ?_, ?_, fun x hx => by cases hx⟩
        · intro q hq
          simp only [Adr.mut, List.mem_cons, List.not_mem_nil, or_false] at hq
          rcases hq with rfl | rfl | rfl | rfl | rfl | rfl | rfl | rfl | rfl
          · exact (hF 0 (by decide)).1
          · exact (hF 0 (by decide)).2.1
          · exact (hF 0 (by decide)).2.2
          · exact (hF 1 (by decide)).1
          · exact (hF 1 (by decide)).2.1
          · exact (hF 1 (by decide)).2.2
          · exact hwl
          · exact fol
          · exact S.free hhe
        · have e : (List.range 2).flatMap (fun b => [Lc b, Oc b, Tc b]) = [Lc 0, Oc 0, Tc 0, Lc 1, Oc 1, Tc 1] := rfl
          rw [e] at hnd
          simp only [Adr.mut]
          have pm : ([wl, ol] ++ [Lc 0, Oc 0, Tc 0, Lc 1, Oc 1, Tc 1]).Perm ([Lc 0, Oc 0, Tc 0, Lc 1, Oc 1, Tc 1] ++ [wl, ol]) := List.perm_append_comm
          have nd2 := pm.nodup_iff.mp hnd
          have : ([Lc 0, Oc 0, Tc 0, Lc 1, Oc 1, Tc 1] ++ [wl, ol] ++ [he]).Nodup := by
            rw [List.nodup_append]
            refine ⟨nd2, by simp, fun x hx y hy z => ?_⟩
            rw [List.mem_singleton] at hy
            subst hy z
            simp only [List.mem_append, List.mem_cons, List.not_mem_nil, or_false] at hx
            rcases hx with (rfl | rfl | rfl | rfl | rfl | rfl) | (rfl | rfl)
            · exact hl0 rfl
            · exact ho0 rfl
            · exact ht0 rfl
            · exact hl1 rfl
            · exact ho1 rfl
            · exact ht1 rfl
            · exact hw rfl
            · exact hol' rfl
          exact this
      generalize upd H' he (.lst []) = G at Tw ⊢
      clear hB hF hnd ewl eol S SA hol hwl hhe
      walk_at "go"
      refine s_lenL (.inl (Tw.sc.seq hS)) ?_
      rw [List.length_map]
      walk_at "go"
      refine s_min2 (j := 63) ?_
      walk_at "go"
      rw [show ((4 : Int) + ((min ns.length 63 : Nat) : Int)).toNat = 4 + ns.length by omega]
      refine for_range (lo := 0) (n := 4 + ns.length) (fun i σ H' => ∃ (v : Nat → Option V) (n : Nat → Nat) (R : Nat → Rel) (L : Nat → List (Nat × Nat)) (hs : List V), σ = [some (.ref a), some (.ref wl), some (.ref ol), v 3, v 4, v 5, some (.ref he), v 7, v 8, v 9, v 10, v 11, v 12, v 13, v 14, v 15, v 16] ∧ Two T.c_Web H H' ⟨P, Lc, Oc, Tc, wl, ol, he⟩ n R L hs ∧ hs.length ≤ 4 * i) ⟨fun k => [none, none, none, v 3, v 4, v 5, none, none, none, none, none, none, none, none, none, none, none].getD k none, n, _, _, [], rfl, Tw, by simp⟩ ?_ ?_
      · clear Tw
        rintro i σ H' hi ⟨v, n, R, L, hs, rfl, Tw, hhs⟩
        rw [Int.zero_add]
        walk_at "go"
        rw [show (i : Int) + 3 = ((i + 3 : Nat) : Int) by omega]
        refine u__law_number (Tw.sc.seq hS) (by omega) ?_
        have hc := numN_lt ns (i + 3)
        generalize numN ns (i + 3) = c at hc ⊢
        walk_at "go"
        rw [show (3 : Int) * (i : Int) + 70 = ((3 * i + 70 : Nat) : Int) by omega]
        refine u__law_number (Tw.sc.seq hS) (by omega) ?_
        have hmo := numN_lt ns (3 * i + 70)
        generalize numN ns (3 * i + 70) = mo at hmo ⊢
        walk_at "go"
        obtain ⟨b, hb, eb⟩ := which_is ((c : Int) % 5 = 1)
        rw [eb]
        clear eb
        walk_at "go"
        refine s_ixL (SqL.of Tw.ol) (atI_nat (two_at Oc hb)) ?_
        have B0 := Tw.both b hb
        walk_at "go"
        refine s_dgetS B0.own.ob (ownK_many _ _) ?_
        rw [show (c : Int) / 5 = ((c / 5 : Nat) : Int) by omega]
        refine s_modN B0.pos ?_
        have hone : c / 5 % n b < n b := Nat.mod_lt _ B0.pos
        generalize c / 5 % n b = one at hone ⊢
        walk_at "go"
        refine s_dgetS B0.own.ob (ownK_many _ _) ?_
        rw [show (c : Int) / 160 = ((c / 160 : Nat) : Int) by omega]
        refine s_modN B0.pos ?_
        have htwo : c / 160 % n b < n b := Nat.mod_lt _ B0.pos
        generalize c / 160 % n b = two at htwo ⊢
        walk_at "go"
        intro p1 h1
        walk_at "go"
        intro p2 h2
        walk_at "go"
        intro p3 h3
        walk_at "go"
        refine s_dgetS (up_old h3 (up_old h2 (up_old h1 B0.own.ob))) (ownK_many _ _) ?_
        walk_at "go"
        intro p4 h4
        walk_at "go"
        rw [show (mo : Int) % 10 = ((mo % 10 : Nat) : Int) by omega]
        have S4 : Same H' (upd (upd (upd (upd H' p1 (.lst [.int 0])) p2 (.tup [.int 0])) p3 (.dT [])) p4 (.lst [.non, .bl true, .bl false, .str "0", .ref p1, .ref p2, .ref p3, .int (-1), .int (n b), .int (30 + mo)])) := (((Same.new h1).trans (Same.new h2)).trans (Same.new h3)).trans (Same.new h4)
        have g1 : upd (upd (upd (upd H' p1 (.lst [.int 0])) p2 (.tup [.int 0])) p3 (.dT [])) p4 (.lst [.non, .bl true, .bl false, .str "0", .ref p1, .ref p2, .ref p3, .int (-1), .int (n b), .int (30 + mo)]) p1 = some (.lst [.int 0]) := by walk_at "jh"
        have g2 : upd (upd (upd (upd H' p1 (.lst [.int 0])) p2 (.tup [.int 0])) p3 (.dT [])) p4 (.lst [.non, .bl true, .bl false, .str "0", .ref p1, .ref p2, .ref p3, .int (-1), .int (n b), .int (30 + mo)]) p2 = some (.tup [.int 0]) := by walk_at "jh"
        have g3 : upd (upd (upd (upd H' p1 (.lst [.int 0])) p2 (.tup [.int 0])) p3 (.dT [])) p4 (.lst [.non, .bl true, .bl false, .str "0", .ref p1, .ref p2, .ref p3, .int (-1), .int (n b), .int (30 + mo)]) p3 = some (.dT []) := by walk_at "jh"
        have g4 : upd (upd (upd (upd H' p1 (.lst [.int 0])) p2 (.tup [.int 0])) p3 (.dT [])) p4 (.lst [.non, .bl true, .bl false, .str "0", .ref p1, .ref p2, .ref p3, .int (-1), .int (n b), .int (30 + mo)]) p4 = some (.lst [.non, .bl true, .bl false, .str "0", .ref p1, .ref p2, .ref p3, .int (-1), .int (n b), .int (30 + mo)]) := upd_same
        have Tw4 := Tw.same S4
        have m1 : p1 ∉ ({ p := P, l := Lc, ow := Oc, td := Tc, wl := wl, ol := ol, he := he } : Adr).mut := fun z => Tw.there _ z h1
        have m2 : p2 ∉ ({ p := P, l := Lc, ow := Oc, td := Tc, wl := wl, ol := ol, he := he } : Adr).mut := fun z => (Tw.same (Same.new (o := .lst [.int 0]) h1)).there _ z h2
        have m3 : p3 ∉ ({ p := P, l := Lc, ow := Oc, td := Tc, wl := wl, ol := ol, he := he } : Adr).mut := fun z => ((Tw.same (Same.new (o := .lst [.int 0]) h1)).same (Same.new (o := .tup [.int 0]) h2)).there _ z h3
        clear h1 h2 h3 h4
        generalize upd (upd (upd (upd H' p1 (.lst [.int 0])) p2 (.tup [.int 0])) p3 (.dT [])) p4 (.lst [.non, .bl true, .bl false, .str "0", .ref p1, .ref p2, .ref p3, .int (-1), .int (n b), .int (30 + mo)]) = G4 at S4 g1 g2 g3 g4 Tw4 ⊢
        have odd : ∃ x nm, ([.non, .bl true, .bl false, .str "0", .ref p1, .ref p2, .ref p3, .int (-1), .int (n b), .int (30 + mo)] : List V)[mo % 10]? = some x ∧ Th K G4 x nm ∧ (mo % 10 ≠ 8 → ∀ m : Nat, m ≤ 30 → among x 0 ((m : Int) - 1) = false) ∧ ∀ q, x = .ref q → q ∉ ({ p := P, l := Lc, ow := Oc, td := Tc, wl := wl, ol := ol, he := he } : Adr).mut := by
          have : mo % 10 = 0 ∨ mo % 10 = 1 ∨ mo % 10 = 2 ∨ mo % 10 = 3 ∨ mo % 10 = 4 ∨ mo % 10 = 5 ∨ mo % 10 = 6 ∨ mo % 10 = 7 ∨ mo % 10 = 8 ∨ mo % 10 = 9 := by omega
          rcases this with e | e | e | e | e | e | e | e | e | e <;> rw [e]
          · exact ⟨_, _, rfl, .non, fun _ m _ => rfl, fun q z => by cases z⟩
          · exact ⟨_, _, rfl, .bl _, fun _ m _ => rfl, fun q z => by cases z⟩
          · exact ⟨_, _, rfl, .bl _, fun _ m _ => rfl, fun q z => by cases z⟩
          · exact ⟨_, _, rfl, .str _, fun _ m _ => rfl, fun q z => by cases z⟩
          · exact ⟨_, _, rfl, .lst g1, fun _ m _ => rfl, fun q z => by cases z; exact m1⟩
          · exact ⟨_, _, rfl, .tup g2, fun _ m _ => rfl, fun q z => by cases z; exact m2⟩
          · exact ⟨_, _, rfl, .dT g3, fun _ m _ => rfl, fun q z => by cases z; exact m3⟩
          · exact ⟨_, _, rfl, .int _, fun _ m _ => rfl, fun q z => by cases z⟩
          · exact ⟨_, _, rfl, .int _, fun z => absurd rfl z, fun q z => by cases z⟩
          · refine ⟨_, _, rfl, .int _, fun _ m hm => ?_, fun q z => by cases z⟩
            rw [among_int, Bool.and_eq_false_iff, decide_eq_false_iff_not, decide_eq_false_iff_not]
            omega
        obtain ⟨x, nm, ex, tx, bx, nx⟩ := odd
        refine s_ixL (SqL.of g4) (atI_nat ex) ?_
        clear g1 g2 g3 g4 ex
        walk_at "go"
        intro t0 ht0
        walk_at "go"
        intro t1 ht1
        walk_at "go"
        intro t2 ht2
        walk_at "go"
        intro t3 ht3
        walk_at "go"
        intro t4 ht4
        walk_at "go"
        intro t5 ht5
        walk_at "go"
        intro t6 ht6
        walk_at "go"
        rw [show (c : Int) / 6000 % 6 = ((c / 6000 % 6 : Nat) : Int) by omega]
        have S6 : Same G4 (upd (upd (upd (upd (upd (upd (upd G4 t0 (.tup [.int one, .int two])) t1 (.tup [.int one, .int two])) t2 (.tup [.int one, .int two])) t3 (.tup [x, .int two])) t4 (.tup [.int one, x])) t5 (.tup [.int one, .int one])) t6 (.lst [.ref t0, .ref t1, .ref t2, .ref t3, .ref t4, .ref t5])) := (((((((Same.new ht0).trans (Same.new ht1)).trans (Same.new ht2)).trans (Same.new ht3)).trans (Same.new ht4)).trans (Same.new ht5)).trans (Same.new ht6))
        have w0 : (upd (upd (upd (upd (upd (upd (upd G4 t0 (.tup [.int one, .int two])) t1 (.tup [.int one, .int two])) t2 (.tup [.int one, .int two])) t3 (.tup [x, .int two])) t4 (.tup [.int one, x])) t5 (.tup [.int one, .int one])) t6 (.lst [.ref t0, .ref t1, .ref t2, .ref t3, .ref t4, .ref t5])) t0 = some (.tup [.int one, .int two]) := by walk_at "jh"
        have w1 : (upd (upd (upd (upd (upd (upd (upd G4 t0 (.tup [.int one, .int two])) t1 (.tup [.int one, .int two])) t2 (.tup [.int one, .int two])) t3 (.tup [x, .int two])) t4 (.tup [.int one, x])) t5 (.tup [.int one, .int one])) t6 (.lst [.ref t0, .ref t1, .ref t2, .ref t3, .ref t4, .ref t5])) t1 = some (.tup [.int one, .int two]) := by walk_at "jh"
        have w2 : (upd (upd (upd (upd (upd (upd (upd G4 t0 (.tup [.int one, .int two])) t1 (.tup [.int one, .int two])) t2 (.tup [.int one, .int two])) t3 (.tup [x, .int two])) t4 (.tup [.int one, x])) t5 (.tup [.int one, .int one])) t6 (.lst [.ref t0, .ref t1, .ref t2, .ref t3, .ref t4, .ref t5])) t2 = some (.tup [.int one, .int two]) := by walk_at "jh"
        have w3 : (upd (upd (upd (upd (upd (upd (upd G4 t0 (.tup [.int one, .int two])) t1 (.tup [.int one, .int two])) t2 (.tup [.int one, .int two])) t3 (.tup [x, .int two])) t4 (.tup [.int one, x])) t5 (.tup [.int one, .int one])) t6 (.lst [.ref t0, .ref t1, .ref t2, .ref t3, .ref t4, .ref t5])) t3 = some (.tup [x, .int two]) := by walk_at "jh"
        have w4 : (upd (upd (upd (upd (upd (upd (upd G4 t0 (.tup [.int one, .int two])) t1 (.tup [.int one, .int two])) t2 (.tup [.int one, .int two])) t3 (.tup [x, .int two])) t4 (.tup [.int one, x])) t5 (.tup [.int one, .int one])) t6 (.lst [.ref t0, .ref t1, .ref t2, .ref t3, .ref t4, .ref t5])) t4 = some (.tup [.int one, x]) := by walk_at "jh"
        have w5 : (upd (upd (upd (upd (upd (upd (upd G4 t0 (.tup [.int one, .int two])) t1 (.tup [.int one, .int two])) t2 (.tup [.int one, .int two])) t3 (.tup [x, .int two])) t4 (.tup [.int one, x])) t5 (.tup [.int one, .int one])) t6 (.lst [.ref t0, .ref t1, .ref t2, .ref t3, .ref t4, .ref t5])) t5 = some (.tup [.int one, .int one]) := by walk_at "jh"
        have w6 : (upd (upd (upd (upd (upd (upd (upd G4 t0 (.tup [.int one, .int two])) t1 (.tup [.int one, .int two])) t2 (.tup [.int one, .int two])) t3 (.tup [x, .int two])) t4 (.tup [.int one, x])) t5 (.tup [.int one, .int one])) t6 (.lst [.ref t0, .ref t1, .ref t2, .ref t3, .ref t4, .ref t5])) t6 = some (.lst [.ref t0, .ref t1, .ref t2, .ref t3, .ref t4, .ref t5]) := upd_same
        clear ht0 ht1 ht2 ht3 ht4 ht5 ht6
        generalize upd (upd (upd (upd (upd (upd (upd G4 t0 (.tup [.int one, .int two])) t1 (.tup [.int one, .int two])) t2 (.tup [.int one, .int two])) t3 (.tup [x, .int two])) t4 (.tup [.int one, x])) t5 (.tup [.int one, .int one])) t6 (.lst [.ref t0, .ref t1, .ref t2, .ref t3, .ref t4, .ref t5]) = G6 at S6 w0 w1 w2 w3 w4 w5 w6 ⊢
        have tx6 := tx.same S6
        have pr : ∃ (tp : Addr) (y z : V) (m1 m2 : String), ([.ref t0, .ref t1, .ref t2, .ref t3, .ref t4, .ref t5] : List V)[c / 6000 % 6]? = some (.ref tp) ∧ G6 tp = some (.tup [y, z]) ∧ Th K G6 y m1 ∧ Th K G6 z m2 := by
          have : c / 6000 % 6 = 0 ∨ c / 6000 % 6 = 1 ∨ c / 6000 % 6 = 2 ∨ c / 6000 % 6 = 3 ∨ c / 6000 % 6 = 4 ∨ c / 6000 % 6 = 5 := by omega
          rcases this with e | e | e | e | e | e <;> rw [e]
          · exact ⟨_, _, _, _, _, rfl, w0, .int _, .int _⟩
          · exact ⟨_, _, _, _, _, rfl, w1, .int _, .int _⟩
          · exact ⟨_, _, _, _, _, rfl, w2, .int _, .int _⟩
          · exact ⟨_, _, _, _, _, rfl, w3, tx6, .int _⟩
          · exact ⟨_, _, _, _, _, rfl, w4, .int _, tx6⟩
          · exact ⟨_, _, _, _, _, rfl, w5, .int _, .int _⟩
        obtain ⟨tp, y, z, my, mz, ep, etp, ty, tz⟩ := pr
        refine s_ixL (SqL.of w6) (atI_nat ep) ?_
        have Tw6 := Tw4.same S6
        clear w0 w1 w2 w3 w4 w5 w6 ep S6 tx
        walk_at "go"
        intro t7 ht7
        walk_at "go"
        rw [show (mo : Int) / 10 % 6 = ((mo / 10 % 6 : Nat) : Int) by omega]
        have wd : ∃ w : Str, ([.str "put", .str "put", .str "put", .str "take", .str "has", .str "grow"] : List V)[mo / 10 % 6]? = some (.str w) ∧ wordOk w := by
          have : mo / 10 % 6 = 0 ∨ mo / 10 % 6 = 1 ∨ mo / 10 % 6 = 2 ∨ mo / 10 % 6 = 3 ∨ mo / 10 % 6 = 4 ∨ mo / 10 % 6 = 5 := by omega
          rcases this with e | e | e | e | e | e <;> rw [e]
          · exact ⟨_, rfl, .inl rfl⟩
          · exact ⟨_, rfl, .inl rfl⟩
          · exact ⟨_, rfl, .inl rfl⟩
          · exact ⟨_, rfl, .inr (.inl rfl)⟩
          · exact ⟨_, rfl, .inr (.inr (.inl rfl))⟩
          · exact ⟨_, rfl, .inr (.inr (.inr rfl))⟩
        obtain ⟨w', ew, hw⟩ := wd
        refine s_ixL (SqL.of upd_same) (atI_nat ew) ?_
        have S7 := Same.new (o := .lst [.str "put", .str "put", .str "put", .str "take", .str "has", .str "grow"]) ht7
        have Tw7 := Tw6.same S7
        have etp7 := S7 _ _ etp
        have tx7 := tx6.same S7
        have ty7 := ty.same S7
        have tz7 := tz.same S7
        generalize upd G6 t7 (.lst [.str "put", .str "put", .str "put", .str "take", .str "has", .str "grow"]) = G7 at S7 Tw7 etp7 tx7 ty7 tz7 ⊢
        clear S7 ew ht7 Tw6 etp ty tz tx6 Tw4 S4
        walk_at "go"
        refine s_ixL (SqL.of Tw7.wl) (atI_nat (two_at P hb)) ?_
        walk_at "go"
        refine s_ixT (v := y) (SqT.of etp7) rfl ?_
        walk_at "go"
        refine s_ixT (v := z) (SqT.of etp7) rfl ?_
        walk_at "go"
        refine ⟨P b, Lc b, Oc b, Tc b, n b, R b, L b, w', y, z, my, mz, rfl, Tw7.both b hb, hw, ty7, tz7, fun n' R' L' G8 le8 St8 B8 => ?_⟩
        have Tw8 := Tw7.deed hb St8 B8
        have tx8 : Th K G8 x nm := tx7.stay (fun q e z => nx q e (by
          have h01 : b = 0 ∨ b = 1 := by omega
          simp only [List.mem_cons, List.not_mem_nil, or_false] at z
          rcases h01 with rfl | rfl <;> rcases z with rfl | rfl | rfl <;> simp [Adr.mut])) St8
        clear Tw7 St8 tx7 ty7 tz7 etp7
        walk_at "go"
        refine s_ixL (SqL.of Tw8.wl) (atI_nat (two_at P hb)) ?_
        walk_at "go"
        refine ⟨P b, Lc b, Oc b, Tc b, n', R', L', one, he, hs, _, rfl, B8, by omega, ⟨Tw8.he, by omega, Tw8.there, by simp [Adr.mut], ?_, Tw8.held⟩, fun hs2 G9 St9 ehe9 hl9 hh9 => ?_⟩
        · exact Tw8.heL hb
        have Tw9 := Tw8.more St9 ehe9 hh9
        have B9 : Both T.c_Web G9 (P b) (Lc b) (Oc b) (Tc b) n' R' L' := by
          have := Tw9.both b hb
          simp only [if_true] at this
          exact this
        have tx9 : Th K G9 x nm := tx8.stay (fun q e z => nx q e (by rw [List.mem_singleton] at z; subst z; simp [Adr.mut])) St9
        clear tx8 St9 Tw8 B8
        walk_at "go"
        refine s_seqJ (fun σ' G => ∃ (xx : V) (mm : String), σ' = [some (V.ref a), some (V.ref wl), some (V.ref ol), some (V.int ↑i), v 4, v 5, some (V.ref he), some (V.int ↑c), some (V.int ↑mo), some (V.int ↑b), some (V.ref (Oc b)), some (V.int ↑one), some (V.int ↑two), some xx, some (V.ref tp), some (V.str w'), v 16] ∧ G = G9 ∧ Th K G9 xx mm ∧ among xx 0 ((n' : Int) - 1) = false) ?_ ?_
        · walk_at "go"
          refine s_dec (fun e8 => ?_) (fun e8 => ?_)
          · walk_at "go"
            refine s_dgetS B9.own.ob (ownK_many _ _) ?_
            walk_at "go"
            refine ⟨_, _, rfl, rfl, .int _, ?_⟩
            rw [among_int, Bool.and_eq_false_iff, decide_eq_false_iff_not, decide_eq_false_iff_not]
            omega
          · walk_at "go"
            exact ⟨x, nm, rfl, rfl, tx9, bx (by omega) n' B9.le⟩
        rintro σ' G ⟨xx, mm, rfl, rfl, tx, bad⟩
        walk_at "go"
        refine s_ixL (SqL.of Tw9.wl) (atI_nat (two_at P hb)) ?_
        walk_at "go"
        refine ⟨P b, Lc b, n', R', xx, mm, rfl, B9.web, tx, bad, fun G10 S10 => ?_⟩
        have Tw10 := Tw9.same S10
        have B10 := B9.same S10
        clear Tw9 B9 tx tx9 bx nx bad S10
        walk_at "go"
        refine s_ixL (SqL.of Tw10.wl) (atI_nat (two_at P hb)) ?_
        walk_at "go"
        refine ⟨P b, Lc b, Oc b, Tc b, n', R', L', "has", .int two, .int one, _, _, rfl, B10, .inr (.inr (.inl rfl)), .int _, .int _, fun n2 R2 L2 G11 le11 St11 B11 => ?_⟩
        have Tw11 := Tw10.deed hb St11 B11
        clear Tw10 B10 St11
        walk_at "go"
        rw [show (mo : Int) / 60 % 4 = ((mo / 60 % 4 : Nat) : Int) by omega]
        refine s_dec (fun _ => ?_) (fun _ => ?_)
        · walk_at "go"
          have hb2 : 1 - b < 2 := by omega
          have ed : (1 : Int) - (b : Int) = ((1 - b : Nat) : Int) := by omega
          rw [ed]
          generalize 1 - b = d at hb2 ed ⊢
          refine s_ixL (SqL.of Tw11.wl) (atI_nat (two_at P hb2)) ?_
          walk_at "go"
          rw [ed]
          refine s_ixL (SqL.of Tw11.ol) (atI_nat (two_at Oc hb2)) ?_
          have B12 := Tw11.both d hb2
          walk_at "go"
          refine ⟨P d, Lc d, Oc d, Tc d, _, _, _, 0, he, hs2, _, rfl, B12, B12.pos, ⟨Tw11.he, by omega, Tw11.there, by simp [Adr.mut], Tw11.heL hb2, Tw11.held⟩, fun hs3 G12 St12 ehe12 hl12 hh12 => ?_⟩
          have Tw12 := Tw11.more St12 ehe12 hh12
          walk_at "go"
          exact ⟨fun k => [none, none, none, some (.int i), v 4, v 5, none, some (.int c), some (.int mo), some (.int b), some (.ref (Oc b)), some (.int one), some (.int two), some xx, some (.ref tp), some (.str w'), v 16].getD k none, _, _, _, _, rfl, Tw12, by omega⟩
        · walk_at "go"
          exact ⟨fun k => [none, none, none, some (.int i), v 4, v 5, none, some (.int c), some (.int mo), some (.int b), some (.ref (Oc b)), some (.int one), some (.int two), some xx, some (.ref tp), some (.str w'), v 16].getD k none, _, _, _, _, rfl, Tw11, by omega⟩
      · rintro σ H' ⟨v, n, R, L, hs, rfl, Tw, hhs⟩
        walk_at "go"
        intro p1 h1
        walk_at "go"
        intro p2 h2
        walk_at "go"
        intro p3 h3
        walk_at "go"
        have S3 : Same H' (upd (upd (upd H' p1 (.lst [.int 3])) p2 (.tup [.int 3])) p3 (.dT [])) := ((Same.new h1).trans (Same.new h2)).trans (Same.new h3)
        have g1 : (upd (upd (upd H' p1 (.lst [.int 3])) p2 (.tup [.int 3])) p3 (.dT [])) p1 = some (.lst [.int 3]) := by walk_at "jh"
        have g2 : (upd (upd (upd H' p1 (.lst [.int 3])) p2 (.tup [.int 3])) p3 (.dT [])) p2 = some (.tup [.int 3]) := by walk_at "jh"
        have g3 : (upd (upd (upd H' p1 (.lst [.int 3])) p2 (.tup [.int 3])) p3 (.dT [])) p3 = some (.dT []) := upd_same
        generalize upd (upd (upd H' p1 (.lst [.int 3])) p2 (.tup [.int 3])) p3 (.dT []) = G3 at S3 g1 g2 g3 ⊢
        clear h1 h2 h3
        refine u__law_number (k := 5) ((Tw.sc.trans S3).seq hS) (by decide) ?_
        generalize numN ns 5 = far
        walk_at "go"
        intro p4 h4
        walk_at "go"
        intro p5 h5
        walk_at "go"
        have S5 : Same G3 (upd (upd G3 p4 (.lst [.int 0, .int (-1), .int 31, .bl true, .bl false, .non, .str "3", .ref p1, .ref p2, .ref p3, .int (31 + (far : Int)), .int (10 ^ Int.toNat 60)])) p5 (.tup [.int 6, .int 7])) := (Same.new h4).trans (Same.new h5)
        have g4 := up_old (o' := .tup [.int 6, .int 7]) h5 (upd_same (H := G3) (a := p4) (o := .lst [.int 0, .int (-1), .int 31, .bl true, .bl false, .non, .str "3", .ref p1, .ref p2, .ref p3, .int (31 + (far : Int)), .int (10 ^ Int.toNat 60)]))
        have g5 := upd_same (H := upd G3 p4 (.lst [.int 0, .int (-1), .int 31, .bl true, .bl false, .non, .str "3", .ref p1, .ref p2, .ref p3, .int (31 + (far : Int)), .int (10 ^ Int.toNat 60)])) (a := p5) (o := .tup [.int 6, .int 7])
        generalize upd (upd G3 p4 (.lst [.int 0, .int (-1), .int 31, .bl true, .bl false, .non, .str "3", .ref p1, .ref p2, .ref p3, .int (31 + (far : Int)), .int (10 ^ Int.toNat 60)])) p5 (.tup [.int 6, .int 7]) = G5 at S5 g4 g5 ⊢
        have Tw5 := (Tw.same S3).same S5
        replace g1 := S5 _ _ g1
        replace g2 := S5 _ _ g2
        replace g3 := S5 _ _ g3
        clear h4 h5 S3 S5 Tw
        refine for_tup (K := K) (a := p5) (xs := [.int 6, .int 7]) (fun i σ H' => ∃ (v3 : Option V), σ = [some (.ref a), some (.ref wl), some (.ref ol), v3, v 4, v 5, some (.ref he), v 7, v 8, v 9, v 10, v 11, v 12, v 13, v 14, v 15, some (.ref p4)] ∧ Same G5 H') ⟨_, rfl, Same.refl _⟩ ?_ ?_ ?_
        · rintro i σ H' _ ⟨v3, rfl, S⟩
          exact SqT.of (S _ _ g5)
        · rintro i x σ H' hx ⟨v3, rfl, S⟩
          obtain ⟨kk, hk, rfl⟩ : ∃ kk : Nat, kk ≤ 7 ∧ x = .int kk := by
            match i, hx with
            | 0, hx => exact ⟨6, by decide, by simpa using hx.symm⟩
            | 1, hx => exact ⟨7, by decide, by simpa using hx.symm⟩
          walk_at "go"
          refine u__law_number (k := kk) ((Tw5.sc.trans S).seq hS) (by omega) ?_
          generalize numN ns kk = q
          walk_at "go"
          rw [show (q : Int) % 12 = ((q % 12 : Nat) : Int) by omega]
          have bad : ∃ z mm, ([.int 0, .int (-1), .int 31, .bl true, .bl false, .non, .str "3", .ref p1, .ref p2, .ref p3, .int (31 + (far : Int)), .int (10 ^ Int.toNat 60)] : List V)[q % 12]? = some z ∧ Th K H' z mm ∧ among z 1 30 = false := by
            have hq : q % 12 < 12 := Nat.mod_lt _ (by decide)
            generalize q % 12 = r at hq
            have i1 : ∀ j : Int, (j < 1 ∨ 30 < j) → among (.int j) 1 30 = false := fun j hj => by
              rw [among_int, Bool.and_eq_false_iff, decide_eq_false_iff_not, decide_eq_false_iff_not]
              omega
            match r, hq with
            | 0, _ => exact ⟨_, _, rfl, .int _, i1 _ (by decide)⟩
            | 1, _ => exact ⟨_, _, rfl, .int _, i1 _ (by decide)⟩
            | 2, _ => exact ⟨_, _, rfl, .int _, i1 _ (by decide)⟩
            | 3, _ => exact ⟨_, _, rfl, .bl _, rfl⟩
            | 4, _ => exact ⟨_, _, rfl, .bl _, rfl⟩
            | 5, _ => exact ⟨_, _, rfl, .non, rfl⟩
            | 6, _ => exact ⟨_, _, rfl, .str _, rfl⟩
            | 7, _ => exact ⟨_, _, rfl, .lst (S _ _ g1), rfl⟩
            | 8, _ => exact ⟨_, _, rfl, .tup (S _ _ g2), rfl⟩
            | 9, _ => exact ⟨_, _, rfl, .dT (S _ _ g3), rfl⟩
            | 10, _ => exact ⟨_, _, rfl, .int _, i1 _ (by omega)⟩
            | 11, _ => exact ⟨_, _, rfl, .int _, i1 _ (by decide +kernel)⟩
          obtain ⟨z, mm, ez, tz, bz⟩ := bad
          refine s_ixL (SqL.of (S _ _ g4)) (atI_nat ez) ?_
          walk_at "go"
          refine ⟨z, mm, rfl, tz, bz, fun H2 S2 => ?_⟩
          walk_at "go"
          exact ⟨_, rfl, S.trans S2⟩
        · rintro σ H' ⟨v3, rfl, S⟩
          have Tw6 := Tw5.same S
          walk_at "go"
          refine s_ilistE (SqL.of Tw6.he) ?_
          intro D hD
          refine lc_list (K := K) (a := he) (xs := hs) (fun i H2 => H2 = upd H' D (.lst [])) rfl ?_ ?_ ?_
          · rintro i H2 _ rfl
            exact SqL.of (up_old hD Tw6.he)
          · rintro i x H2 hx rfl
            walk_at "jlc"
            obtain ⟨t0, f, g, xs, rfl, et, ef, eg, _, _, tl⟩ := Tw6.held x (List.mem_of_getElem? hx)
            refine ⟨rfl, ?_⟩
            have et' := up_old (o' := .lst []) hD et
            walk_at "go"
            refine s_ixT (v := .ref f) (SqT.of et') rfl ?_
            walk_at "go"
            refine s_ixT (v := .ref g) (SqT.of et') rfl ?_
            refine held_ne (up_old hD ef) (up_old hD eg) (fun y hy => (tl y hy).same (Same.new hD)) ?_
            walk_at "go"
            rfl
          · rintro H2 rfl
            walk_at "go"
            intro p hp
            walk_at "go"
            refine s_eqD (d := .list []) (e := .list []) (.lst (SqL.of (up_old hp upd_same)) .nil) (.lst (SqL.of upd_same) .nil) (by decide +kernel) (by decide +kernel) ?_
            exact k _
theorem all_mk {K : PySem.W.Frag} {h : Heap} {mg : Str → Option Value} (X : K.In h) (G : h.Ns mainGlobals mg)
    {a_is_among : Addr} {a_points_in : Addr} {a__law_mixed : Addr} {a__law_number : Addr} {a__law_kind : Addr} {a__law_whole : Addr} {a__law_is_point : Addr} {a__law_due : Addr} {a__law_call : Addr} {a__law_said : Addr} {a__law_done : Addr} {a__law_beside_refused : Addr} {a__law_looked : Addr} {a__law_size_refused : Addr} {a_law : Addr} {a_Web_init : Addr} {a_Web_many : Addr} {a_Web_need_point : Addr} {a_Web_has : Addr} {a_Web_change : Addr} {a_Web_put : Addr} {a_Web_take : Addr} {a_Web_grow : Addr} {a_Web_beside : Addr} {a_Web_ties : Addr} {c_Web : Addr} {c_JoinError : Addr} {c_BadSize : Addr} {c_BadPoint : Addr} {c_Twice : Addr} {c_NoTie : Addr} {c_TooMany : Addr} {c_NoTree : Addr} {c_BadTree : Addr} {c_BadText : Addr} {t_MOST_POINTS : Tok}
    {od_is_among an_is_among : Option Addr} {sl_is_among : Array (Option Value)} {oc_is_among kV_is_among dc_is_among pm_is_among cd_is_among ct_is_among : Value}
    {od_points_in an_points_in : Option Addr} {sl_points_in : Array (Option Value)} {oc_points_in kV_points_in dc_points_in pm_points_in cd_points_in ct_points_in : Value}
    {od__law_mixed an__law_mixed : Option Addr} {sl__law_mixed : Array (Option Value)} {oc__law_mixed kV__law_mixed dc__law_mixed pm__law_mixed cd__law_mixed ct__law_mixed : Value}
    {od__law_number an__law_number : Option Addr} {sl__law_number : Array (Option Value)} {oc__law_number kV__law_number dc__law_number pm__law_number cd__law_number ct__law_number : Value}
    {od__law_kind an__law_kind : Option Addr} {sl__law_kind : Array (Option Value)} {oc__law_kind kV__law_kind dc__law_kind pm__law_kind cd__law_kind ct__law_kind : Value}
    {od__law_whole an__law_whole : Option Addr} {sl__law_whole : Array (Option Value)} {oc__law_whole kV__law_whole dc__law_whole pm__law_whole cd__law_whole ct__law_whole : Value}
    {od__law_is_point an__law_is_point : Option Addr} {sl__law_is_point : Array (Option Value)} {oc__law_is_point kV__law_is_point dc__law_is_point pm__law_is_point cd__law_is_point ct__law_is_point : Value}
    {od__law_due an__law_due : Option Addr} {sl__law_due : Array (Option Value)} {oc__law_due kV__law_due dc__law_due pm__law_due cd__law_due ct__law_due : Value}
    {od__law_call an__law_call : Option Addr} {sl__law_call : Array (Option Value)} {oc__law_call kV__law_call dc__law_call pm__law_call cd__law_call ct__law_call : Value}
    {od__law_said an__law_said : Option Addr} {sl__law_said : Array (Option Value)} {oc__law_said kV__law_said dc__law_said pm__law_said cd__law_said ct__law_said : Value}
    {od__law_done an__law_done : Option Addr} {sl__law_done : Array (Option Value)} {oc__law_done kV__law_done dc__law_done pm__law_done cd__law_done ct__law_done : Value}
    {od__law_beside_refused an__law_beside_refused : Option Addr} {sl__law_beside_refused : Array (Option Value)} {oc__law_beside_refused kV__law_beside_refused dc__law_beside_refused pm__law_beside_refused cd__law_beside_refused ct__law_beside_refused : Value}
    {od__law_looked an__law_looked : Option Addr} {sl__law_looked : Array (Option Value)} {oc__law_looked kV__law_looked dc__law_looked pm__law_looked cd__law_looked ct__law_looked : Value}
    {od__law_size_refused an__law_size_refused : Option Addr} {sl__law_size_refused : Array (Option Value)} {oc__law_size_refused kV__law_size_refused dc__law_size_refused pm__law_size_refused cd__law_size_refused ct__law_size_refused : Value}
    {od_law an_law : Option Addr} {sl_law : Array (Option Value)} {oc_law kV_law dc_law pm_law cd_law ct_law : Value}
    {od_Web_init an_Web_init : Option Addr} {sl_Web_init : Array (Option Value)} {oc_Web_init kV_Web_init dc_Web_init pm_Web_init cd_Web_init ct_Web_init : Value}
    {od_Web_many an_Web_many : Option Addr} {sl_Web_many : Array (Option Value)} {oc_Web_many kV_Web_many dc_Web_many pm_Web_many cd_Web_many ct_Web_many : Value}
    {od_Web_need_point an_Web_need_point : Option Addr} {sl_Web_need_point : Array (Option Value)} {oc_Web_need_point kV_Web_need_point dc_Web_need_point pm_Web_need_point cd_Web_need_point ct_Web_need_point : Value}
    {od_Web_has an_Web_has : Option Addr} {sl_Web_has : Array (Option Value)} {oc_Web_has kV_Web_has dc_Web_has pm_Web_has cd_Web_has ct_Web_has : Value}
    {od_Web_change an_Web_change : Option Addr} {sl_Web_change : Array (Option Value)} {oc_Web_change kV_Web_change dc_Web_change pm_Web_change cd_Web_change ct_Web_change : Value}
    {od_Web_put an_Web_put : Option Addr} {sl_Web_put : Array (Option Value)} {oc_Web_put kV_Web_put dc_Web_put pm_Web_put cd_Web_put ct_Web_put : Value}
    {od_Web_take an_Web_take : Option Addr} {sl_Web_take : Array (Option Value)} {oc_Web_take kV_Web_take dc_Web_take pm_Web_take cd_Web_take ct_Web_take : Value}
    {od_Web_grow an_Web_grow : Option Addr} {sl_Web_grow : Array (Option Value)} {oc_Web_grow kV_Web_grow dc_Web_grow pm_Web_grow cd_Web_grow ct_Web_grow : Value}
    {od_Web_beside an_Web_beside : Option Addr} {sl_Web_beside : Array (Option Value)} {oc_Web_beside kV_Web_beside dc_Web_beside pm_Web_beside cd_Web_beside ct_Web_beside : Value}
    {od_Web_ties an_Web_ties : Option Addr} {sl_Web_ties : Array (Option Value)} {oc_Web_ties kV_Web_ties dc_Web_ties pm_Web_ties cd_Web_ties ct_Web_ties : Value}
    (l_is_among : K.lookup a_is_among = some ⟨oc_is_among, od_is_among, .func (PySem.W.fnOf "is_among" "is_among" (defArgs st_is_among) (defBody st_is_among) (defScope st_is_among) .none kV_is_among dc_is_among pm_is_among an_is_among cd_is_among ct_is_among), sl_is_among⟩)
    (c_is_among : PySem.W.codeIn K cd_is_among "is_among" = true)
    (k_is_among : PySem.W.keepIn K (.ref a_is_among) = true)
    (n_is_among : PySem.W.nsIn K mainGlobals "is_among" = some (some (.ref a_is_among)))
    (l_points_in : K.lookup a_points_in = some ⟨oc_points_in, od_points_in, .func (PySem.W.fnOf "points_in" "points_in" (defArgs st_points_in) (defBody st_points_in) (defScope st_points_in) .none kV_points_in dc_points_in pm_points_in an_points_in cd_points_in ct_points_in), sl_points_in⟩)
    (c_points_in : PySem.W.codeIn K cd_points_in "points_in" = true)
    (k_points_in : PySem.W.keepIn K (.ref a_points_in) = true)
    (n_points_in : PySem.W.nsIn K mainGlobals "points_in" = some (some (.ref a_points_in)))
    (l__law_mixed : K.lookup a__law_mixed = some ⟨oc__law_mixed, od__law_mixed, .func (PySem.W.fnOf "_law_mixed" "_law_mixed" (defArgs st__law_mixed) (defBody st__law_mixed) (defScope st__law_mixed) .none kV__law_mixed dc__law_mixed pm__law_mixed an__law_mixed cd__law_mixed ct__law_mixed), sl__law_mixed⟩)
    (c__law_mixed : PySem.W.codeIn K cd__law_mixed "_law_mixed" = true)
    (k__law_mixed : PySem.W.keepIn K (.ref a__law_mixed) = true)
    (n__law_mixed : PySem.W.nsIn K mainGlobals "_law_mixed" = some (some (.ref a__law_mixed)))
    (l__law_number : K.lookup a__law_number = some ⟨oc__law_number, od__law_number, .func (PySem.W.fnOf "_law_number" "_law_number" (defArgs st__law_number) (defBody st__law_number) (defScope st__law_number) .none kV__law_number dc__law_number pm__law_number an__law_number cd__law_number ct__law_number), sl__law_number⟩)
    (c__law_number : PySem.W.codeIn K cd__law_number "_law_number" = true)
    (k__law_number : PySem.W.keepIn K (.ref a__law_number) = true)
    (n__law_number : PySem.W.nsIn K mainGlobals "_law_number" = some (some (.ref a__law_number)))
    (l__law_kind : K.lookup a__law_kind = some ⟨oc__law_kind, od__law_kind, .func (PySem.W.fnOf "_law_kind" "_law_kind" (defArgs st__law_kind) (defBody st__law_kind) (defScope st__law_kind) .none kV__law_kind dc__law_kind pm__law_kind an__law_kind cd__law_kind ct__law_kind), sl__law_kind⟩)
    (c__law_kind : PySem.W.codeIn K cd__law_kind "_law_kind" = true)
    (k__law_kind : PySem.W.keepIn K (.ref a__law_kind) = true)
    (n__law_kind : PySem.W.nsIn K mainGlobals "_law_kind" = some (some (.ref a__law_kind)))
    (l__law_whole : K.lookup a__law_whole = some ⟨oc__law_whole, od__law_whole, .func (PySem.W.fnOf "_law_whole" "_law_whole" (defArgs st__law_whole) (defBody st__law_whole) (defScope st__law_whole) .none kV__law_whole dc__law_whole pm__law_whole an__law_whole cd__law_whole ct__law_whole), sl__law_whole⟩)
    (c__law_whole : PySem.W.codeIn K cd__law_whole "_law_whole" = true)
    (k__law_whole : PySem.W.keepIn K (.ref a__law_whole) = true)
    (n__law_whole : PySem.W.nsIn K mainGlobals "_law_whole" = some (some (.ref a__law_whole)))
    (l__law_is_point : K.lookup a__law_is_point = some ⟨oc__law_is_point, od__law_is_point, .func (PySem.W.fnOf "_law_is_point" "_law_is_point" (defArgs st__law_is_point) (defBody st__law_is_point) (defScope st__law_is_point) .none kV__law_is_point dc__law_is_point pm__law_is_point an__law_is_point cd__law_is_point ct__law_is_point), sl__law_is_point⟩)
    (c__law_is_point : PySem.W.codeIn K cd__law_is_point "_law_is_point" = true)
    (k__law_is_point : PySem.W.keepIn K (.ref a__law_is_point) = true)
    (n__law_is_point : PySem.W.nsIn K mainGlobals "_law_is_point" = some (some (.ref a__law_is_point)))
    (l__law_due : K.lookup a__law_due = some ⟨oc__law_due, od__law_due, .func (PySem.W.fnOf "_law_due" "_law_due" (defArgs st__law_due) (defBody st__law_due) (defScope st__law_due) .none kV__law_due dc__law_due pm__law_due an__law_due cd__law_due ct__law_due), sl__law_due⟩)
    (c__law_due : PySem.W.codeIn K cd__law_due "_law_due" = true)
    (k__law_due : PySem.W.keepIn K (.ref a__law_due) = true)
    (n__law_due : PySem.W.nsIn K mainGlobals "_law_due" = some (some (.ref a__law_due)))
    (l__law_call : K.lookup a__law_call = some ⟨oc__law_call, od__law_call, .func (PySem.W.fnOf "_law_call" "_law_call" (defArgs st__law_call) (defBody st__law_call) (defScope st__law_call) .none kV__law_call dc__law_call pm__law_call an__law_call cd__law_call ct__law_call), sl__law_call⟩)
    (c__law_call : PySem.W.codeIn K cd__law_call "_law_call" = true)
    (k__law_call : PySem.W.keepIn K (.ref a__law_call) = true)
    (n__law_call : PySem.W.nsIn K mainGlobals "_law_call" = some (some (.ref a__law_call)))
    (l__law_said : K.lookup a__law_said = some ⟨oc__law_said, od__law_said, .func (PySem.W.fnOf "_law_said" "_law_said" (defArgs st__law_said) (defBody st__law_said) (defScope st__law_said) .none kV__law_said dc__law_said pm__law_said an__law_said cd__law_said ct__law_said), sl__law_said⟩)
    (c__law_said : PySem.W.codeIn K cd__law_said "_law_said" = true)
    (k__law_said : PySem.W.keepIn K (.ref a__law_said) = true)
    (n__law_said : PySem.W.nsIn K mainGlobals "_law_said" = some (some (.ref a__law_said)))
    (l__law_done : K.lookup a__law_done = some ⟨oc__law_done, od__law_done, .func (PySem.W.fnOf "_law_done" "_law_done" (defArgs st__law_done) (defBody st__law_done) (defScope st__law_done) .none kV__law_done dc__law_done pm__law_done an__law_done cd__law_done ct__law_done), sl__law_done⟩)
    (c__law_done : PySem.W.codeIn K cd__law_done "_law_done" = true)
    (k__law_done : PySem.W.keepIn K (.ref a__law_done) = true)
    (n__law_done : PySem.W.nsIn K mainGlobals "_law_done" = some (some (.ref a__law_done)))
    (l__law_beside_refused : K.lookup a__law_beside_refused = some ⟨oc__law_beside_refused, od__law_beside_refused, .func (PySem.W.fnOf "_law_beside_refused" "_law_beside_refused" (defArgs st__law_beside_refused) (defBody st__law_beside_refused) (defScope st__law_beside_refused) .none kV__law_beside_refused dc__law_beside_refused pm__law_beside_refused an__law_beside_refused cd__law_beside_refused ct__law_beside_refused), sl__law_beside_refused⟩)
    (c__law_beside_refused : PySem.W.codeIn K cd__law_beside_refused "_law_beside_refused" = true)
    (k__law_beside_refused : PySem.W.keepIn K (.ref a__law_beside_refused) = true)
    (n__law_beside_refused : PySem.W.nsIn K mainGlobals "_law_beside_refused" = some (some (.ref a__law_beside_refused)))
    (l__law_looked : K.lookup a__law_looked = some ⟨oc__law_looked, od__law_looked, .func (PySem.W.fnOf "_law_looked" "_law_looked" (defArgs st__law_looked) (defBody st__law_looked) (defScope st__law_looked) .none kV__law_looked dc__law_looked pm__law_looked an__law_looked cd__law_looked ct__law_looked), sl__law_looked⟩)
    (c__law_looked : PySem.W.codeIn K cd__law_looked "_law_looked" = true)
    (k__law_looked : PySem.W.keepIn K (.ref a__law_looked) = true)
    (n__law_looked : PySem.W.nsIn K mainGlobals "_law_looked" = some (some (.ref a__law_looked)))
    (l__law_size_refused : K.lookup a__law_size_refused = some ⟨oc__law_size_refused, od__law_size_refused, .func (PySem.W.fnOf "_law_size_refused" "_law_size_refused" (defArgs st__law_size_refused) (defBody st__law_size_refused) (defScope st__law_size_refused) .none kV__law_size_refused dc__law_size_refused pm__law_size_refused an__law_size_refused cd__law_size_refused ct__law_size_refused), sl__law_size_refused⟩)
    (c__law_size_refused : PySem.W.codeIn K cd__law_size_refused "_law_size_refused" = true)
    (k__law_size_refused : PySem.W.keepIn K (.ref a__law_size_refused) = true)
    (n__law_size_refused : PySem.W.nsIn K mainGlobals "_law_size_refused" = some (some (.ref a__law_size_refused)))
    (l_law : K.lookup a_law = some ⟨oc_law, od_law, .func (PySem.W.fnOf "law" "law" (defArgs st_law) (defBody st_law) (defScope st_law) .none kV_law dc_law pm_law an_law cd_law ct_law), sl_law⟩)
    (c_law : PySem.W.codeIn K cd_law "law" = true)
    (k_law : PySem.W.keepIn K (.ref a_law) = true)
    (n_law : PySem.W.nsIn K mainGlobals "law" = some (some (.ref a_law)))
    (l_Web_init : K.lookup a_Web_init = some ⟨oc_Web_init, od_Web_init, .func (PySem.W.fnOf "__init__" "Web.__init__" (defArgs st_Web_init) (defBody st_Web_init) (defScope st_Web_init) .none kV_Web_init dc_Web_init pm_Web_init an_Web_init cd_Web_init ct_Web_init), sl_Web_init⟩)
    (c_Web_init : PySem.W.codeIn K cd_Web_init "Web.__init__" = true)
    (k_Web_init : PySem.W.keepIn K (.ref a_Web_init) = true)
    (l_Web_many : K.lookup a_Web_many = some ⟨oc_Web_many, od_Web_many, .func (PySem.W.fnOf "many" "Web.many" (defArgs st_Web_many) (defBody st_Web_many) (defScope st_Web_many) .none kV_Web_many dc_Web_many pm_Web_many an_Web_many cd_Web_many ct_Web_many), sl_Web_many⟩)
    (c_Web_many : PySem.W.codeIn K cd_Web_many "Web.many" = true)
    (k_Web_many : PySem.W.keepIn K (.ref a_Web_many) = true)
    (l_Web_need_point : K.lookup a_Web_need_point = some ⟨oc_Web_need_point, od_Web_need_point, .func (PySem.W.fnOf "need_point" "Web.need_point" (defArgs st_Web_need_point) (defBody st_Web_need_point) (defScope st_Web_need_point) .none kV_Web_need_point dc_Web_need_point pm_Web_need_point an_Web_need_point cd_Web_need_point ct_Web_need_point), sl_Web_need_point⟩)
    (c_Web_need_point : PySem.W.codeIn K cd_Web_need_point "Web.need_point" = true)
    (k_Web_need_point : PySem.W.keepIn K (.ref a_Web_need_point) = true)
    (l_Web_has : K.lookup a_Web_has = some ⟨oc_Web_has, od_Web_has, .func (PySem.W.fnOf "has" "Web.has" (defArgs st_Web_has) (defBody st_Web_has) (defScope st_Web_has) .none kV_Web_has dc_Web_has pm_Web_has an_Web_has cd_Web_has ct_Web_has), sl_Web_has⟩)
    (c_Web_has : PySem.W.codeIn K cd_Web_has "Web.has" = true)
    (k_Web_has : PySem.W.keepIn K (.ref a_Web_has) = true)
    (l_Web_change : K.lookup a_Web_change = some ⟨oc_Web_change, od_Web_change, .func (PySem.W.fnOf "change" "Web.change" (defArgs st_Web_change) (defBody st_Web_change) (defScope st_Web_change) .none kV_Web_change dc_Web_change pm_Web_change an_Web_change cd_Web_change ct_Web_change), sl_Web_change⟩)
    (c_Web_change : PySem.W.codeIn K cd_Web_change "Web.change" = true)
    (k_Web_change : PySem.W.keepIn K (.ref a_Web_change) = true)
    (l_Web_put : K.lookup a_Web_put = some ⟨oc_Web_put, od_Web_put, .func (PySem.W.fnOf "put" "Web.put" (defArgs st_Web_put) (defBody st_Web_put) (defScope st_Web_put) .none kV_Web_put dc_Web_put pm_Web_put an_Web_put cd_Web_put ct_Web_put), sl_Web_put⟩)
    (c_Web_put : PySem.W.codeIn K cd_Web_put "Web.put" = true)
    (k_Web_put : PySem.W.keepIn K (.ref a_Web_put) = true)
    (l_Web_take : K.lookup a_Web_take = some ⟨oc_Web_take, od_Web_take, .func (PySem.W.fnOf "take" "Web.take" (defArgs st_Web_take) (defBody st_Web_take) (defScope st_Web_take) .none kV_Web_take dc_Web_take pm_Web_take an_Web_take cd_Web_take ct_Web_take), sl_Web_take⟩)
    (c_Web_take : PySem.W.codeIn K cd_Web_take "Web.take" = true)
    (k_Web_take : PySem.W.keepIn K (.ref a_Web_take) = true)
    (l_Web_grow : K.lookup a_Web_grow = some ⟨oc_Web_grow, od_Web_grow, .func (PySem.W.fnOf "grow" "Web.grow" (defArgs st_Web_grow) (defBody st_Web_grow) (defScope st_Web_grow) .none kV_Web_grow dc_Web_grow pm_Web_grow an_Web_grow cd_Web_grow ct_Web_grow), sl_Web_grow⟩)
    (c_Web_grow : PySem.W.codeIn K cd_Web_grow "Web.grow" = true)
    (k_Web_grow : PySem.W.keepIn K (.ref a_Web_grow) = true)
    (l_Web_beside : K.lookup a_Web_beside = some ⟨oc_Web_beside, od_Web_beside, .func (PySem.W.fnOf "beside" "Web.beside" (defArgs st_Web_beside) (defBody st_Web_beside) (defScope st_Web_beside) .none kV_Web_beside dc_Web_beside pm_Web_beside an_Web_beside cd_Web_beside ct_Web_beside), sl_Web_beside⟩)
    (c_Web_beside : PySem.W.codeIn K cd_Web_beside "Web.beside" = true)
    (k_Web_beside : PySem.W.keepIn K (.ref a_Web_beside) = true)
    (l_Web_ties : K.lookup a_Web_ties = some ⟨oc_Web_ties, od_Web_ties, .func (PySem.W.fnOf "ties" "Web.ties" (defArgs st_Web_ties) (defBody st_Web_ties) (defScope st_Web_ties) .none kV_Web_ties dc_Web_ties pm_Web_ties an_Web_ties cd_Web_ties ct_Web_ties), sl_Web_ties⟩)
    (c_Web_ties : PySem.W.codeIn K cd_Web_ties "Web.ties" = true)
    (k_Web_ties : PySem.W.keepIn K (.ref a_Web_ties) = true)
    (pg_Web : PySem.W.plainGet K c_Web Str.empty = true)
    (hd_Web : PySem.W.hasDictIn K c_Web = true)
    (po_Web : PySem.W.plainOver K c_Web = true)
    (sa_Web : PySem.W.findIn K (.ref c_Web) "__setattr__" = some (some (.builtin "object.__setattr__")))
    (n_Web : PySem.W.nsIn K mainGlobals "Web" = some (some (.ref c_Web)))
    (mk_Web : PySem.W.makesIn K c_Web = true)
    (in_Web : PySem.W.findIn K (.ref c_Web) "__init__" = some (some (.ref a_Web_init)))
    (kp_Web : PySem.W.keepIn K (.ref c_Web) = true)
    (if_Web : PySem.W.isFn K (.ref a_Web_init) = true)
    (f_Web_near : PySem.W.findIn K (.ref c_Web) "near" = some none)
    (m_Web_many : PySem.W.findIn K (.ref c_Web) "many" = some (some (.ref a_Web_many)))
    (mf_Web_many : PySem.W.isFn K (.ref a_Web_many) = true)
    (m_Web_need_point : PySem.W.findIn K (.ref c_Web) "need_point" = some (some (.ref a_Web_need_point)))
    (mf_Web_need_point : PySem.W.isFn K (.ref a_Web_need_point) = true)
    (m_Web_has : PySem.W.findIn K (.ref c_Web) "has" = some (some (.ref a_Web_has)))
    (mf_Web_has : PySem.W.isFn K (.ref a_Web_has) = true)
    (m_Web_change : PySem.W.findIn K (.ref c_Web) "change" = some (some (.ref a_Web_change)))
    (mf_Web_change : PySem.W.isFn K (.ref a_Web_change) = true)
    (m_Web_put : PySem.W.findIn K (.ref c_Web) "put" = some (some (.ref a_Web_put)))
    (mf_Web_put : PySem.W.isFn K (.ref a_Web_put) = true)
    (m_Web_take : PySem.W.findIn K (.ref c_Web) "take" = some (some (.ref a_Web_take)))
    (mf_Web_take : PySem.W.isFn K (.ref a_Web_take) = true)
    (m_Web_grow : PySem.W.findIn K (.ref c_Web) "grow" = some (some (.ref a_Web_grow)))
    (mf_Web_grow : PySem.W.isFn K (.ref a_Web_grow) = true)
    (m_Web_beside : PySem.W.findIn K (.ref c_Web) "beside" = some (some (.ref a_Web_beside)))
    (mf_Web_beside : PySem.W.isFn K (.ref a_Web_beside) = true)
    (m_Web_ties : PySem.W.findIn K (.ref c_Web) "ties" = some (some (.ref a_Web_ties)))
    (mf_Web_ties : PySem.W.isFn K (.ref a_Web_ties) = true)
    (spc : PySem.W.specialIn K (.builtin "object.__class__") "__get__" = some (some (.builtin "getset_descriptor.__get__")))
    (tkc : PySem.W.takesIn K (.builtin "object.__class__") = some true)
    (n_JoinError : PySem.W.nsIn K mainGlobals "JoinError" = some (some (.ref c_JoinError)))
    (be_JoinError : PySem.W.subIn K (.ref c_JoinError) (.type "BaseException") = some true)
    (te_JoinError : PySem.W.typeIn K (.ref c_JoinError) = some (.type "type"))
    (is_JoinError : PySem.W.isClsIn K c_JoinError = true)
    (hx_JoinError : PySem.W.hasDictIn K c_JoinError = true)
    (sb_JoinError_JoinError : PySem.W.subIn K (.ref c_JoinError) (.ref c_JoinError) = some true)
    (n_BadSize : PySem.W.nsIn K mainGlobals "BadSize" = some (some (.ref c_BadSize)))
    (be_BadSize : PySem.W.subIn K (.ref c_BadSize) (.type "BaseException") = some true)
    (te_BadSize : PySem.W.typeIn K (.ref c_BadSize) = some (.type "type"))
    (is_BadSize : PySem.W.isClsIn K c_BadSize = true)
    (hx_BadSize : PySem.W.hasDictIn K c_BadSize = true)
    (sb_BadSize_BadSize : PySem.W.subIn K (.ref c_BadSize) (.ref c_BadSize) = some true)
    (x_BadSize : PySem.W.excIn K c_BadSize [.type "ValueError", .type "Exception", .type "BaseException", .type "object"] "ValueError.__new__" = true)
    (kp_BadSize : PySem.W.keepIn K (.ref c_BadSize) = true)
    (xg_BadSize : PySem.W.findIn K (.ref c_BadSize) "__getattribute__" = some (some (.builtin "BaseException.__getattribute__")))
    (xk_BadSize : PySem.W.findIn K (.ref c_BadSize) "__getattr__" = some none)
    (xa_BadSize : PySem.W.findIn K (.ref c_BadSize) "__class__" = some (some (.builtin "object.__class__")))
    (xm_BadSize : PySem.W.mroIn K c_BadSize (.type "object") = some true)
    (sb_BadSize_JoinError : PySem.W.subIn K (.ref c_BadSize) (.ref c_JoinError) = some true)
    (sb_BadSize_BadPoint : PySem.W.subIn K (.ref c_BadSize) (.ref c_BadPoint) = some false)
    (sb_BadSize_Twice : PySem.W.subIn K (.ref c_BadSize) (.ref c_Twice) = some false)
    (sb_BadSize_NoTie : PySem.W.subIn K (.ref c_BadSize) (.ref c_NoTie) = some false)
    (sb_BadSize_TooMany : PySem.W.subIn K (.ref c_BadSize) (.ref c_TooMany) = some false)
    (sb_BadSize_NoTree : PySem.W.subIn K (.ref c_BadSize) (.ref c_NoTree) = some false)
    (sb_BadSize_BadTree : PySem.W.subIn K (.ref c_BadSize) (.ref c_BadTree) = some false)
    (sb_BadSize_BadText : PySem.W.subIn K (.ref c_BadSize) (.ref c_BadText) = some false)
    (sv_BadSize : PySem.W.subIn K (.ref c_BadSize) (.type "ValueError") = some true)
    (n_BadPoint : PySem.W.nsIn K mainGlobals "BadPoint" = some (some (.ref c_BadPoint)))
    (be_BadPoint : PySem.W.subIn K (.ref c_BadPoint) (.type "BaseException") = some true)
    (te_BadPoint : PySem.W.typeIn K (.ref c_BadPoint) = some (.type "type"))
    (is_BadPoint : PySem.W.isClsIn K c_BadPoint = true)
    (hx_BadPoint : PySem.W.hasDictIn K c_BadPoint = true)
    (sb_BadPoint_BadPoint : PySem.W.subIn K (.ref c_BadPoint) (.ref c_BadPoint) = some true)
    (x_BadPoint : PySem.W.excIn K c_BadPoint [.type "ValueError", .type "Exception", .type "BaseException", .type "object"] "ValueError.__new__" = true)
    (kp_BadPoint : PySem.W.keepIn K (.ref c_BadPoint) = true)
    (xg_BadPoint : PySem.W.findIn K (.ref c_BadPoint) "__getattribute__" = some (some (.builtin "BaseException.__getattribute__")))
    (xk_BadPoint : PySem.W.findIn K (.ref c_BadPoint) "__getattr__" = some none)
    (xa_BadPoint : PySem.W.findIn K (.ref c_BadPoint) "__class__" = some (some (.builtin "object.__class__")))
    (xm_BadPoint : PySem.W.mroIn K c_BadPoint (.type "object") = some true)
    (sb_BadPoint_JoinError : PySem.W.subIn K (.ref c_BadPoint) (.ref c_JoinError) = some true)
    (sb_BadPoint_BadSize : PySem.W.subIn K (.ref c_BadPoint) (.ref c_BadSize) = some false)
    (sb_BadPoint_Twice : PySem.W.subIn K (.ref c_BadPoint) (.ref c_Twice) = some false)
    (sb_BadPoint_NoTie : PySem.W.subIn K (.ref c_BadPoint) (.ref c_NoTie) = some false)
    (sb_BadPoint_TooMany : PySem.W.subIn K (.ref c_BadPoint) (.ref c_TooMany) = some false)
    (sb_BadPoint_NoTree : PySem.W.subIn K (.ref c_BadPoint) (.ref c_NoTree) = some false)
    (sb_BadPoint_BadTree : PySem.W.subIn K (.ref c_BadPoint) (.ref c_BadTree) = some false)
    (sb_BadPoint_BadText : PySem.W.subIn K (.ref c_BadPoint) (.ref c_BadText) = some false)
    (sv_BadPoint : PySem.W.subIn K (.ref c_BadPoint) (.type "ValueError") = some true)
    (n_Twice : PySem.W.nsIn K mainGlobals "Twice" = some (some (.ref c_Twice)))
    (be_Twice : PySem.W.subIn K (.ref c_Twice) (.type "BaseException") = some true)
    (te_Twice : PySem.W.typeIn K (.ref c_Twice) = some (.type "type"))
    (is_Twice : PySem.W.isClsIn K c_Twice = true)
    (hx_Twice : PySem.W.hasDictIn K c_Twice = true)
    (sb_Twice_Twice : PySem.W.subIn K (.ref c_Twice) (.ref c_Twice) = some true)
    (x_Twice : PySem.W.excIn K c_Twice [.type "ValueError", .type "Exception", .type "BaseException", .type "object"] "ValueError.__new__" = true)
    (kp_Twice : PySem.W.keepIn K (.ref c_Twice) = true)
    (xg_Twice : PySem.W.findIn K (.ref c_Twice) "__getattribute__" = some (some (.builtin "BaseException.__getattribute__")))
    (xk_Twice : PySem.W.findIn K (.ref c_Twice) "__getattr__" = some none)
    (xa_Twice : PySem.W.findIn K (.ref c_Twice) "__class__" = some (some (.builtin "object.__class__")))
    (xm_Twice : PySem.W.mroIn K c_Twice (.type "object") = some true)
    (sb_Twice_JoinError : PySem.W.subIn K (.ref c_Twice) (.ref c_JoinError) = some true)
    (sb_Twice_BadSize : PySem.W.subIn K (.ref c_Twice) (.ref c_BadSize) = some false)
    (sb_Twice_BadPoint : PySem.W.subIn K (.ref c_Twice) (.ref c_BadPoint) = some false)
    (sb_Twice_NoTie : PySem.W.subIn K (.ref c_Twice) (.ref c_NoTie) = some false)
    (sb_Twice_TooMany : PySem.W.subIn K (.ref c_Twice) (.ref c_TooMany) = some false)
    (sb_Twice_NoTree : PySem.W.subIn K (.ref c_Twice) (.ref c_NoTree) = some false)
    (sb_Twice_BadTree : PySem.W.subIn K (.ref c_Twice) (.ref c_BadTree) = some false)
    (sb_Twice_BadText : PySem.W.subIn K (.ref c_Twice) (.ref c_BadText) = some false)
    (sv_Twice : PySem.W.subIn K (.ref c_Twice) (.type "ValueError") = some true)
    (n_NoTie : PySem.W.nsIn K mainGlobals "NoTie" = some (some (.ref c_NoTie)))
    (be_NoTie : PySem.W.subIn K (.ref c_NoTie) (.type "BaseException") = some true)
    (te_NoTie : PySem.W.typeIn K (.ref c_NoTie) = some (.type "type"))
    (is_NoTie : PySem.W.isClsIn K c_NoTie = true)
    (hx_NoTie : PySem.W.hasDictIn K c_NoTie = true)
    (sb_NoTie_NoTie : PySem.W.subIn K (.ref c_NoTie) (.ref c_NoTie) = some true)
    (x_NoTie : PySem.W.excIn K c_NoTie [.type "ValueError", .type "Exception", .type "BaseException", .type "object"] "ValueError.__new__" = true)
    (kp_NoTie : PySem.W.keepIn K (.ref c_NoTie) = true)
    (xg_NoTie : PySem.W.findIn K (.ref c_NoTie) "__getattribute__" = some (some (.builtin "BaseException.__getattribute__")))
    (xk_NoTie : PySem.W.findIn K (.ref c_NoTie) "__getattr__" = some none)
    (xa_NoTie : PySem.W.findIn K (.ref c_NoTie) "__class__" = some (some (.builtin "object.__class__")))
    (xm_NoTie : PySem.W.mroIn K c_NoTie (.type "object") = some true)
    (sb_NoTie_JoinError : PySem.W.subIn K (.ref c_NoTie) (.ref c_JoinError) = some true)
    (sb_NoTie_BadSize : PySem.W.subIn K (.ref c_NoTie) (.ref c_BadSize) = some false)
    (sb_NoTie_BadPoint : PySem.W.subIn K (.ref c_NoTie) (.ref c_BadPoint) = some false)
    (sb_NoTie_Twice : PySem.W.subIn K (.ref c_NoTie) (.ref c_Twice) = some false)
    (sb_NoTie_TooMany : PySem.W.subIn K (.ref c_NoTie) (.ref c_TooMany) = some false)
    (sb_NoTie_NoTree : PySem.W.subIn K (.ref c_NoTie) (.ref c_NoTree) = some false)
    (sb_NoTie_BadTree : PySem.W.subIn K (.ref c_NoTie) (.ref c_BadTree) = some false)
    (sb_NoTie_BadText : PySem.W.subIn K (.ref c_NoTie) (.ref c_BadText) = some false)
    (sv_NoTie : PySem.W.subIn K (.ref c_NoTie) (.type "ValueError") = some true)
    (n_TooMany : PySem.W.nsIn K mainGlobals "TooMany" = some (some (.ref c_TooMany)))
    (be_TooMany : PySem.W.subIn K (.ref c_TooMany) (.type "BaseException") = some true)
    (te_TooMany : PySem.W.typeIn K (.ref c_TooMany) = some (.type "type"))
    (is_TooMany : PySem.W.isClsIn K c_TooMany = true)
    (hx_TooMany : PySem.W.hasDictIn K c_TooMany = true)
    (sb_TooMany_TooMany : PySem.W.subIn K (.ref c_TooMany) (.ref c_TooMany) = some true)
    (x_TooMany : PySem.W.excIn K c_TooMany [.type "ValueError", .type "Exception", .type "BaseException", .type "object"] "ValueError.__new__" = true)
    (kp_TooMany : PySem.W.keepIn K (.ref c_TooMany) = true)
    (xg_TooMany : PySem.W.findIn K (.ref c_TooMany) "__getattribute__" = some (some (.builtin "BaseException.__getattribute__")))
    (xk_TooMany : PySem.W.findIn K (.ref c_TooMany) "__getattr__" = some none)
    (xa_TooMany : PySem.W.findIn K (.ref c_TooMany) "__class__" = some (some (.builtin "object.__class__")))
    (xm_TooMany : PySem.W.mroIn K c_TooMany (.type "object") = some true)
    (sb_TooMany_JoinError : PySem.W.subIn K (.ref c_TooMany) (.ref c_JoinError) = some true)
    (sb_TooMany_BadSize : PySem.W.subIn K (.ref c_TooMany) (.ref c_BadSize) = some false)
    (sb_TooMany_BadPoint : PySem.W.subIn K (.ref c_TooMany) (.ref c_BadPoint) = some false)
    (sb_TooMany_Twice : PySem.W.subIn K (.ref c_TooMany) (.ref c_Twice) = some false)
    (sb_TooMany_NoTie : PySem.W.subIn K (.ref c_TooMany) (.ref c_NoTie) = some false)
    (sb_TooMany_NoTree : PySem.W.subIn K (.ref c_TooMany) (.ref c_NoTree) = some false)
    (sb_TooMany_BadTree : PySem.W.subIn K (.ref c_TooMany) (.ref c_BadTree) = some false)
    (sb_TooMany_BadText : PySem.W.subIn K (.ref c_TooMany) (.ref c_BadText) = some false)
    (sv_TooMany : PySem.W.subIn K (.ref c_TooMany) (.type "ValueError") = some true)
    (n_NoTree : PySem.W.nsIn K mainGlobals "NoTree" = some (some (.ref c_NoTree)))
    (be_NoTree : PySem.W.subIn K (.ref c_NoTree) (.type "BaseException") = some true)
    (te_NoTree : PySem.W.typeIn K (.ref c_NoTree) = some (.type "type"))
    (is_NoTree : PySem.W.isClsIn K c_NoTree = true)
    (hx_NoTree : PySem.W.hasDictIn K c_NoTree = true)
    (sb_NoTree_NoTree : PySem.W.subIn K (.ref c_NoTree) (.ref c_NoTree) = some true)
    (n_BadTree : PySem.W.nsIn K mainGlobals "BadTree" = some (some (.ref c_BadTree)))
    (be_BadTree : PySem.W.subIn K (.ref c_BadTree) (.type "BaseException") = some true)
    (te_BadTree : PySem.W.typeIn K (.ref c_BadTree) = some (.type "type"))
    (is_BadTree : PySem.W.isClsIn K c_BadTree = true)
    (hx_BadTree : PySem.W.hasDictIn K c_BadTree = true)
    (sb_BadTree_BadTree : PySem.W.subIn K (.ref c_BadTree) (.ref c_BadTree) = some true)
    (n_BadText : PySem.W.nsIn K mainGlobals "BadText" = some (some (.ref c_BadText)))
    (be_BadText : PySem.W.subIn K (.ref c_BadText) (.type "BaseException") = some true)
    (te_BadText : PySem.W.typeIn K (.ref c_BadText) = some (.type "type"))
    (is_BadText : PySem.W.isClsIn K c_BadText = true)
    (hx_BadText : PySem.W.hasDictIn K c_BadText = true)
    (sb_BadText_BadText : PySem.W.subIn K (.ref c_BadText) (.ref c_BadText) = some true)
    (n_MOST_POINTS : PySem.W.nsIn K mainGlobals "MOST_POINTS" = some (some (.int 30 t_MOST_POINTS)))
    (z_ValueError : PySem.W.nsIn K mainGlobals "ValueError" = some none)
    (z_bool : PySem.W.nsIn K mainGlobals "bool" = some none)
    (z_enumerate : PySem.W.nsIn K mainGlobals "enumerate" = some none)
    (z_int : PySem.W.nsIn K mainGlobals "int" = some none)
    (z_isinstance : PySem.W.nsIn K mainGlobals "isinstance" = some none)
    (z_len : PySem.W.nsIn K mainGlobals "len" = some none)
    (z_list : PySem.W.nsIn K mainGlobals "list" = some none)
    (z_max : PySem.W.nsIn K mainGlobals "max" = some none)
    (z_min : PySem.W.nsIn K mainGlobals "min" = some none)
    (z_range : PySem.W.nsIn K mainGlobals "range" = some none)
    (z_repr : PySem.W.nsIn K mainGlobals "repr" = some none)
    (z_sorted : PySem.W.nsIn K mainGlobals "sorted" = some none)
    (z_zip : PySem.W.nsIn K mainGlobals "zip" = some none)
    : ∃ T : Txt K mg, T.d_law = PySem.W.fnOf "law" "law" (defArgs st_law) (defBody st_law) (defScope st_law) .none kV_law dc_law pm_law an_law cd_law ct_law := by
  refine ⟨{
    a_is_among := a_is_among,
    d_is_among := _,
    F_is_among := fun_mk (st := st_is_among) l_is_among c_is_among k_is_among,
    b_is_among := (fun_mk (st := st_is_among) l_is_among c_is_among k_is_among).binds (ps := ["thing", "least", "most"]) fun _ _ _ _ _ _ us hl => match us, hl with | [_, _, _], _ => rfl,
    g_is_among := PySem.W.mg_of X G n_is_among,
    a_points_in := a_points_in,
    d_points_in := _,
    F_points_in := fun_mk (st := st_points_in) l_points_in c_points_in k_points_in,
    b_points_in := (fun_mk (st := st_points_in) l_points_in c_points_in k_points_in).binds (ps := ["bits"]) fun _ _ _ _ _ _ us hl => match us, hl with | [_], _ => rfl,
    g_points_in := PySem.W.mg_of X G n_points_in,
    a__law_mixed := a__law_mixed,
    d__law_mixed := _,
    F__law_mixed := fun_mk (st := st__law_mixed) l__law_mixed c__law_mixed k__law_mixed,
    b__law_mixed := (fun_mk (st := st__law_mixed) l__law_mixed c__law_mixed k__law_mixed).binds (ps := ["_law_cell", "_law_k"]) fun _ _ _ _ _ _ us hl => match us, hl with | [_, _], _ => rfl,
    g__law_mixed := PySem.W.mg_of X G n__law_mixed,
    a__law_number := a__law_number,
    d__law_number := _,
    F__law_number := fun_mk (st := st__law_number) l__law_number c__law_number k__law_number,
    b__law_number := (fun_mk (st := st__law_number) l__law_number c__law_number k__law_number).binds (ps := ["_law_script", "_law_k"]) fun _ _ _ _ _ _ us hl => match us, hl with | [_, _], _ => rfl,
    g__law_number := PySem.W.mg_of X G n__law_number,
    a__law_kind := a__law_kind,
    d__law_kind := _,
    F__law_kind := fun_mk (st := st__law_kind) l__law_kind c__law_kind k__law_kind,
    b__law_kind := (fun_mk (st := st__law_kind) l__law_kind c__law_kind k__law_kind).binds (ps := ["_law_e"]) fun _ _ _ _ _ _ us hl => match us, hl with | [_], _ => rfl,
    g__law_kind := PySem.W.mg_of X G n__law_kind,
    a__law_whole := a__law_whole,
    d__law_whole := _,
    F__law_whole := fun_mk (st := st__law_whole) l__law_whole c__law_whole k__law_whole,
    b__law_whole := (fun_mk (st := st__law_whole) l__law_whole c__law_whole k__law_whole).binds (ps := ["_law_thing"]) fun _ _ _ _ _ _ us hl => match us, hl with | [_], _ => rfl,
    g__law_whole := PySem.W.mg_of X G n__law_whole,
    a__law_is_point := a__law_is_point,
    d__law_is_point := _,
    F__law_is_point := fun_mk (st := st__law_is_point) l__law_is_point c__law_is_point k__law_is_point,
    b__law_is_point := (fun_mk (st := st__law_is_point) l__law_is_point c__law_is_point k__law_is_point).binds (ps := ["_law_own", "_law_thing"]) fun _ _ _ _ _ _ us hl => match us, hl with | [_, _], _ => rfl,
    g__law_is_point := PySem.W.mg_of X G n__law_is_point,
    a__law_due := a__law_due,
    d__law_due := _,
    F__law_due := fun_mk (st := st__law_due) l__law_due c__law_due k__law_due,
    b__law_due := (fun_mk (st := st__law_due) l__law_due c__law_due k__law_due).binds (ps := ["_law_own", "_law_word", "_law_one", "_law_other"]) fun _ _ _ _ _ _ us hl => match us, hl with | [_, _, _, _], _ => rfl,
    g__law_due := PySem.W.mg_of X G n__law_due,
    a__law_call := a__law_call,
    d__law_call := _,
    F__law_call := fun_mk (st := st__law_call) l__law_call c__law_call k__law_call,
    b__law_call := (fun_mk (st := st__law_call) l__law_call c__law_call k__law_call).binds (ps := ["_law_web", "_law_word", "_law_one", "_law_other"]) fun _ _ _ _ _ _ us hl => match us, hl with | [_, _, _, _], _ => rfl,
    g__law_call := PySem.W.mg_of X G n__law_call,
    a__law_said := a__law_said,
    d__law_said := _,
    F__law_said := fun_mk (st := st__law_said) l__law_said c__law_said k__law_said,
    b__law_said := (fun_mk (st := st__law_said) l__law_said c__law_said k__law_said).binds (ps := ["_law_web", "_law_word", "_law_one", "_law_other"]) fun _ _ _ _ _ _ us hl => match us, hl with | [_, _, _, _], _ => rfl,
    g__law_said := PySem.W.mg_of X G n__law_said,
    a__law_done := a__law_done,
    d__law_done := _,
    F__law_done := fun_mk (st := st__law_done) l__law_done c__law_done k__law_done,
    b__law_done := (fun_mk (st := st__law_done) l__law_done c__law_done k__law_done).binds (ps := ["_law_web", "_law_own", "_law_word", "_law_one", "_law_other"]) fun _ _ _ _ _ _ us hl => match us, hl with | [_, _, _, _, _], _ => rfl,
    g__law_done := PySem.W.mg_of X G n__law_done,
    a__law_beside_refused := a__law_beside_refused,
    d__law_beside_refused := _,
    F__law_beside_refused := fun_mk (st := st__law_beside_refused) l__law_beside_refused c__law_beside_refused k__law_beside_refused,
    b__law_beside_refused := (fun_mk (st := st__law_beside_refused) l__law_beside_refused c__law_beside_refused k__law_beside_refused).binds (ps := ["_law_web", "_law_thing"]) fun _ _ _ _ _ _ us hl => match us, hl with | [_, _], _ => rfl,
    g__law_beside_refused := PySem.W.mg_of X G n__law_beside_refused,
    a__law_looked := a__law_looked,
    d__law_looked := _,
    F__law_looked := fun_mk (st := st__law_looked) l__law_looked c__law_looked k__law_looked,
    b__law_looked := (fun_mk (st := st__law_looked) l__law_looked c__law_looked k__law_looked).binds (ps := ["_law_web", "_law_own", "_law_point", "_law_held"]) fun _ _ _ _ _ _ us hl => match us, hl with | [_, _, _, _], _ => rfl,
    g__law_looked := PySem.W.mg_of X G n__law_looked,
    a__law_size_refused := a__law_size_refused,
    d__law_size_refused := _,
    F__law_size_refused := fun_mk (st := st__law_size_refused) l__law_size_refused c__law_size_refused k__law_size_refused,
    b__law_size_refused := (fun_mk (st := st__law_size_refused) l__law_size_refused c__law_size_refused k__law_size_refused).binds (ps := ["_law_thing"]) fun _ _ _ _ _ _ us hl => match us, hl with | [_], _ => rfl,
    g__law_size_refused := PySem.W.mg_of X G n__law_size_refused,
    a_law := a_law,
    d_law := _,
    F_law := fun_mk (st := st_law) l_law c_law k_law,
    b_law := (fun_mk (st := st_law) l_law c_law k_law).binds (ps := ["_law_script"]) fun _ _ _ _ _ _ us hl => match us, hl with | [_], _ => rfl,
    g_law := PySem.W.mg_of X G n_law,
    a_Web_init := a_Web_init,
    d_Web_init := _,
    F_Web_init := fun_mk (st := st_Web_init) l_Web_init c_Web_init k_Web_init,
    b_Web_init := (fun_mk (st := st_Web_init) l_Web_init c_Web_init k_Web_init).binds (ps := ["self", "many"]) fun _ _ _ _ _ _ us hl => match us, hl with | [_, _], _ => rfl,
    a_Web_many := a_Web_many,
    d_Web_many := _,
    F_Web_many := fun_mk (st := st_Web_many) l_Web_many c_Web_many k_Web_many,
    b_Web_many := (fun_mk (st := st_Web_many) l_Web_many c_Web_many k_Web_many).binds (ps := ["self"]) fun _ _ _ _ _ _ us hl => match us, hl with | [_], _ => rfl,
    a_Web_need_point := a_Web_need_point,
    d_Web_need_point := _,
    F_Web_need_point := fun_mk (st := st_Web_need_point) l_Web_need_point c_Web_need_point k_Web_need_point,
    b_Web_need_point := (fun_mk (st := st_Web_need_point) l_Web_need_point c_Web_need_point k_Web_need_point).binds (ps := ["self", "point"]) fun _ _ _ _ _ _ us hl => match us, hl with | [_, _], _ => rfl,
    a_Web_has := a_Web_has,
    d_Web_has := _,
    F_Web_has := fun_mk (st := st_Web_has) l_Web_has c_Web_has k_Web_has,
    b_Web_has := (fun_mk (st := st_Web_has) l_Web_has c_Web_has k_Web_has).binds (ps := ["self", "one", "other"]) fun _ _ _ _ _ _ us hl => match us, hl with | [_, _, _], _ => rfl,
    a_Web_change := a_Web_change,
    d_Web_change := _,
    F_Web_change := fun_mk (st := st_Web_change) l_Web_change c_Web_change k_Web_change,
    b_Web_change := (fun_mk (st := st_Web_change) l_Web_change c_Web_change k_Web_change).binds (ps := ["self", "one", "other"]) fun _ _ _ _ _ _ us hl => match us, hl with | [_, _, _], _ => rfl,
    a_Web_put := a_Web_put,
    d_Web_put := _,
    F_Web_put := fun_mk (st := st_Web_put) l_Web_put c_Web_put k_Web_put,
    b_Web_put := (fun_mk (st := st_Web_put) l_Web_put c_Web_put k_Web_put).binds (ps := ["self", "one", "other"]) fun _ _ _ _ _ _ us hl => match us, hl with | [_, _, _], _ => rfl,
    a_Web_take := a_Web_take,
    d_Web_take := _,
    F_Web_take := fun_mk (st := st_Web_take) l_Web_take c_Web_take k_Web_take,
    b_Web_take := (fun_mk (st := st_Web_take) l_Web_take c_Web_take k_Web_take).binds (ps := ["self", "one", "other"]) fun _ _ _ _ _ _ us hl => match us, hl with | [_, _, _], _ => rfl,
    a_Web_grow := a_Web_grow,
    d_Web_grow := _,
    F_Web_grow := fun_mk (st := st_Web_grow) l_Web_grow c_Web_grow k_Web_grow,
    b_Web_grow := (fun_mk (st := st_Web_grow) l_Web_grow c_Web_grow k_Web_grow).binds (ps := ["self"]) fun _ _ _ _ _ _ us hl => match us, hl with | [_], _ => rfl,
    a_Web_beside := a_Web_beside,
    d_Web_beside := _,
    F_Web_beside := fun_mk (st := st_Web_beside) l_Web_beside c_Web_beside k_Web_beside,
    b_Web_beside := (fun_mk (st := st_Web_beside) l_Web_beside c_Web_beside k_Web_beside).binds (ps := ["self", "point"]) fun _ _ _ _ _ _ us hl => match us, hl with | [_, _], _ => rfl,
    a_Web_ties := a_Web_ties,
    d_Web_ties := _,
    F_Web_ties := fun_mk (st := st_Web_ties) l_Web_ties c_Web_ties k_Web_ties,
    b_Web_ties := (fun_mk (st := st_Web_ties) l_Web_ties c_Web_ties k_Web_ties).binds (ps := ["self"]) fun _ _ _ _ _ _ us hl => match us, hl with | [_], _ => rfl,
    c_Web := c_Web,
    cl_Web := ⟨pg_Web, hd_Web, po_Web, sa_Web⟩,
    g_Web := PySem.W.mg_of X G n_Web,
    mk_Web := ⟨mk_Web, in_Web, if_Web, kp_Web⟩,
    n_Web_near := f_Web_near,
    m_Web_many := ⟨m_Web_many, mf_Web_many, k_Web_many⟩,
    m_Web_need_point := ⟨m_Web_need_point, mf_Web_need_point, k_Web_need_point⟩,
    m_Web_has := ⟨m_Web_has, mf_Web_has, k_Web_has⟩,
    m_Web_change := ⟨m_Web_change, mf_Web_change, k_Web_change⟩,
    m_Web_put := ⟨m_Web_put, mf_Web_put, k_Web_put⟩,
    m_Web_take := ⟨m_Web_take, mf_Web_take, k_Web_take⟩,
    m_Web_grow := ⟨m_Web_grow, mf_Web_grow, k_Web_grow⟩,
    m_Web_beside := ⟨m_Web_beside, mf_Web_beside, k_Web_beside⟩,
    m_Web_ties := ⟨m_Web_ties, mf_Web_ties, k_Web_ties⟩,
    c_JoinError := c_JoinError,
    g_JoinError := PySem.W.mg_of X G n_JoinError,
    be_JoinError := be_JoinError,
    te_JoinError := te_JoinError,
    is_JoinError := is_JoinError,
    hx_JoinError := hx_JoinError,
    sb_JoinError_JoinError := sb_JoinError_JoinError,
    c_BadSize := c_BadSize,
    g_BadSize := PySem.W.mg_of X G n_BadSize,
    be_BadSize := be_BadSize,
    te_BadSize := te_BadSize,
    is_BadSize := is_BadSize,
    hx_BadSize := hx_BadSize,
    sb_BadSize_BadSize := sb_BadSize_BadSize,
    x_BadSize := x_BadSize,
    kp_BadSize := kp_BadSize,
    ex_BadSize := ⟨xg_BadSize, xk_BadSize, be_BadSize, hx_BadSize, xa_BadSize, spc, tkc, xm_BadSize⟩,
    sb_BadSize_JoinError := sb_BadSize_JoinError,
    sb_BadSize_BadPoint := sb_BadSize_BadPoint,
    sb_BadSize_Twice := sb_BadSize_Twice,
    sb_BadSize_NoTie := sb_BadSize_NoTie,
    sb_BadSize_TooMany := sb_BadSize_TooMany,
    sb_BadSize_NoTree := sb_BadSize_NoTree,
    sb_BadSize_BadTree := sb_BadSize_BadTree,
    sb_BadSize_BadText := sb_BadSize_BadText,
    sv_BadSize := sv_BadSize,
    c_BadPoint := c_BadPoint,
    g_BadPoint := PySem.W.mg_of X G n_BadPoint,
    be_BadPoint := be_BadPoint,
    te_BadPoint := te_BadPoint,
    is_BadPoint := is_BadPoint,
    hx_BadPoint := hx_BadPoint,
    sb_BadPoint_BadPoint := sb_BadPoint_BadPoint,
    x_BadPoint := x_BadPoint,
    kp_BadPoint := kp_BadPoint,
    ex_BadPoint := ⟨xg_BadPoint, xk_BadPoint, be_BadPoint, hx_BadPoint, xa_BadPoint, spc, tkc, xm_BadPoint⟩,
    sb_BadPoint_JoinError := sb_BadPoint_JoinError,
    sb_BadPoint_BadSize := sb_BadPoint_BadSize,
    sb_BadPoint_Twice := sb_BadPoint_Twice,
    sb_BadPoint_NoTie := sb_BadPoint_NoTie,
    sb_BadPoint_TooMany := sb_BadPoint_TooMany,
    sb_BadPoint_NoTree := sb_BadPoint_NoTree,
    sb_BadPoint_BadTree := sb_BadPoint_BadTree,
    sb_BadPoint_BadText := sb_BadPoint_BadText,
    sv_BadPoint := sv_BadPoint,
    c_Twice := c_Twice,
    g_Twice := PySem.W.mg_of X G n_Twice,
    be_Twice := be_Twice,
    te_Twice := te_Twice,
    is_Twice := is_Twice,
    hx_Twice := hx_Twice,
    sb_Twice_Twice := sb_Twice_Twice,
    x_Twice := x_Twice,
    kp_Twice := kp_Twice,
    ex_Twice := ⟨xg_Twice, xk_Twice, be_Twice, hx_Twice, xa_Twice, spc, tkc, xm_Twice⟩,
    sb_Twice_JoinError := sb_Twice_JoinError,
    sb_Twice_BadSize := sb_Twice_BadSize,
    sb_Twice_BadPoint := sb_Twice_BadPoint,
    sb_Twice_NoTie := sb_Twice_NoTie,
    sb_Twice_TooMany := sb_Twice_TooMany,
    sb_Twice_NoTree := sb_Twice_NoTree,
    sb_Twice_BadTree := sb_Twice_BadTree,
    sb_Twice_BadText := sb_Twice_BadText,
    sv_Twice := sv_Twice,
    c_NoTie := c_NoTie,
    g_NoTie := PySem.W.mg_of X G n_NoTie,
    be_NoTie := be_NoTie,
    te_NoTie := te_NoTie,
    is_NoTie := is_NoTie,
    hx_NoTie := hx_NoTie,
    sb_NoTie_NoTie := sb_NoTie_NoTie,
    x_NoTie := x_NoTie,
    kp_NoTie := kp_NoTie,
    ex_NoTie := ⟨xg_NoTie, xk_NoTie, be_NoTie, hx_NoTie, xa_NoTie, spc, tkc, xm_NoTie⟩,
    sb_NoTie_JoinError := sb_NoTie_JoinError,
    sb_NoTie_BadSize := sb_NoTie_BadSize,
    sb_NoTie_BadPoint := sb_NoTie_BadPoint,
    sb_NoTie_Twice := sb_NoTie_Twice,
    sb_NoTie_TooMany := sb_NoTie_TooMany,
    sb_NoTie_NoTree := sb_NoTie_NoTree,
    sb_NoTie_BadTree := sb_NoTie_BadTree,
    sb_NoTie_BadText := sb_NoTie_BadText,
    sv_NoTie := sv_NoTie,
    c_TooMany := c_TooMany,
    g_TooMany := PySem.W.mg_of X G n_TooMany,
    be_TooMany := be_TooMany,
    te_TooMany := te_TooMany,
    is_TooMany := is_TooMany,
    hx_TooMany := hx_TooMany,
    sb_TooMany_TooMany := sb_TooMany_TooMany,
    x_TooMany := x_TooMany,
    kp_TooMany := kp_TooMany,
    ex_TooMany := ⟨xg_TooMany, xk_TooMany, be_TooMany, hx_TooMany, xa_TooMany, spc, tkc, xm_TooMany⟩,
    sb_TooMany_JoinError := sb_TooMany_JoinError,
    sb_TooMany_BadSize := sb_TooMany_BadSize,
    sb_TooMany_BadPoint := sb_TooMany_BadPoint,
    sb_TooMany_Twice := sb_TooMany_Twice,
    sb_TooMany_NoTie := sb_TooMany_NoTie,
    sb_TooMany_NoTree := sb_TooMany_NoTree,
    sb_TooMany_BadTree := sb_TooMany_BadTree,
    sb_TooMany_BadText := sb_TooMany_BadText,
    sv_TooMany := sv_TooMany,
    c_NoTree := c_NoTree,
    g_NoTree := PySem.W.mg_of X G n_NoTree,
    be_NoTree := be_NoTree,
    te_NoTree := te_NoTree,
    is_NoTree := is_NoTree,
    hx_NoTree := hx_NoTree,
    sb_NoTree_NoTree := sb_NoTree_NoTree,
    c_BadTree := c_BadTree,
    g_BadTree := PySem.W.mg_of X G n_BadTree,
    be_BadTree := be_BadTree,
    te_BadTree := te_BadTree,
    is_BadTree := is_BadTree,
    hx_BadTree := hx_BadTree,
    sb_BadTree_BadTree := sb_BadTree_BadTree,
    c_BadText := c_BadText,
    g_BadText := PySem.W.mg_of X G n_BadText,
    be_BadText := be_BadText,
    te_BadText := te_BadText,
    is_BadText := is_BadText,
    hx_BadText := hx_BadText,
    sb_BadText_BadText := sb_BadText_BadText,
    t_MOST_POINTS := t_MOST_POINTS,
    g_MOST_POINTS := PySem.W.mg_of X G n_MOST_POINTS,
    z_ValueError := PySem.W.mg_none_of X G z_ValueError,
    z_bool := PySem.W.mg_none_of X G z_bool,
    z_enumerate := PySem.W.mg_none_of X G z_enumerate,
    z_int := PySem.W.mg_none_of X G z_int,
    z_isinstance := PySem.W.mg_none_of X G z_isinstance,
    z_len := PySem.W.mg_none_of X G z_len,
    z_list := PySem.W.mg_none_of X G z_list,
    z_max := PySem.W.mg_none_of X G z_max,
    z_min := PySem.W.mg_none_of X G z_min,
    z_range := PySem.W.mg_none_of X G z_range,
    z_repr := PySem.W.mg_none_of X G z_repr,
    z_sorted := PySem.W.mg_none_of X G z_sorted,
    z_zip := PySem.W.mg_none_of X G z_zip }, rfl⟩
theorem fin {K : PySem.W.Frag} {h : Heap} {mg : Str → Option Value} {fa : Addr} (X : K.In h) (G : h.Ns mainGlobals mg) (hmg : mg "law" = some (.ref fa))
    {a_is_among : Addr} {a_points_in : Addr} {a__law_mixed : Addr} {a__law_number : Addr} {a__law_kind : Addr} {a__law_whole : Addr} {a__law_is_point : Addr} {a__law_due : Addr} {a__law_call : Addr} {a__law_said : Addr} {a__law_done : Addr} {a__law_beside_refused : Addr} {a__law_looked : Addr} {a__law_size_refused : Addr} {a_law : Addr} {a_Web_init : Addr} {a_Web_many : Addr} {a_Web_need_point : Addr} {a_Web_has : Addr} {a_Web_change : Addr} {a_Web_put : Addr} {a_Web_take : Addr} {a_Web_grow : Addr} {a_Web_beside : Addr} {a_Web_ties : Addr} {c_Web : Addr} {c_JoinError : Addr} {c_BadSize : Addr} {c_BadPoint : Addr} {c_Twice : Addr} {c_NoTie : Addr} {c_TooMany : Addr} {c_NoTree : Addr} {c_BadTree : Addr} {c_BadText : Addr} {t_MOST_POINTS : Tok}
    {od_is_among an_is_among : Option Addr} {sl_is_among : Array (Option Value)} {oc_is_among kV_is_among dc_is_among pm_is_among cd_is_among ct_is_among : Value}
    {od_points_in an_points_in : Option Addr} {sl_points_in : Array (Option Value)} {oc_points_in kV_points_in dc_points_in pm_points_in cd_points_in ct_points_in : Value}
    {od__law_mixed an__law_mixed : Option Addr} {sl__law_mixed : Array (Option Value)} {oc__law_mixed kV__law_mixed dc__law_mixed pm__law_mixed cd__law_mixed ct__law_mixed : Value}
    {od__law_number an__law_number : Option Addr} {sl__law_number : Array (Option Value)} {oc__law_number kV__law_number dc__law_number pm__law_number cd__law_number ct__law_number : Value}
    {od__law_kind an__law_kind : Option Addr} {sl__law_kind : Array (Option Value)} {oc__law_kind kV__law_kind dc__law_kind pm__law_kind cd__law_kind ct__law_kind : Value}
    {od__law_whole an__law_whole : Option Addr} {sl__law_whole : Array (Option Value)} {oc__law_whole kV__law_whole dc__law_whole pm__law_whole cd__law_whole ct__law_whole : Value}
    {od__law_is_point an__law_is_point : Option Addr} {sl__law_is_point : Array (Option Value)} {oc__law_is_point kV__law_is_point dc__law_is_point pm__law_is_point cd__law_is_point ct__law_is_point : Value}
    {od__law_due an__law_due : Option Addr} {sl__law_due : Array (Option Value)} {oc__law_due kV__law_due dc__law_due pm__law_due cd__law_due ct__law_due : Value}
    {od__law_call an__law_call : Option Addr} {sl__law_call : Array (Option Value)} {oc__law_call kV__law_call dc__law_call pm__law_call cd__law_call ct__law_call : Value}
    {od__law_said an__law_said : Option Addr} {sl__law_said : Array (Option Value)} {oc__law_said kV__law_said dc__law_said pm__law_said cd__law_said ct__law_said : Value}
    {od__law_done an__law_done : Option Addr} {sl__law_done : Array (Option Value)} {oc__law_done kV__law_done dc__law_done pm__law_done cd__law_done ct__law_done : Value}
    {od__law_beside_refused an__law_beside_refused : Option Addr} {sl__law_beside_refused : Array (Option Value)} {oc__law_beside_refused kV__law_beside_refused dc__law_beside_refused pm__law_beside_refused cd__law_beside_refused ct__law_beside_refused : Value}
    {od__law_looked an__law_looked : Option Addr} {sl__law_looked : Array (Option Value)} {oc__law_looked kV__law_looked dc__law_looked pm__law_looked cd__law_looked ct__law_looked : Value}
    {od__law_size_refused an__law_size_refused : Option Addr} {sl__law_size_refused : Array (Option Value)} {oc__law_size_refused kV__law_size_refused dc__law_size_refused pm__law_size_refused cd__law_size_refused ct__law_size_refused : Value}
    {od_law an_law : Option Addr} {sl_law : Array (Option Value)} {oc_law kV_law dc_law pm_law cd_law ct_law : Value}
    {od_Web_init an_Web_init : Option Addr} {sl_Web_init : Array (Option Value)} {oc_Web_init kV_Web_init dc_Web_init pm_Web_init cd_Web_init ct_Web_init : Value}
    {od_Web_many an_Web_many : Option Addr} {sl_Web_many : Array (Option Value)} {oc_Web_many kV_Web_many dc_Web_many pm_Web_many cd_Web_many ct_Web_many : Value}
    {od_Web_need_point an_Web_need_point : Option Addr} {sl_Web_need_point : Array (Option Value)} {oc_Web_need_point kV_Web_need_point dc_Web_need_point pm_Web_need_point cd_Web_need_point ct_Web_need_point : Value}
    {od_Web_has an_Web_has : Option Addr} {sl_Web_has : Array (Option Value)} {oc_Web_has kV_Web_has dc_Web_has pm_Web_has cd_Web_has ct_Web_has : Value}
    {od_Web_change an_Web_change : Option Addr} {sl_Web_change : Array (Option Value)} {oc_Web_change kV_Web_change dc_Web_change pm_Web_change cd_Web_change ct_Web_change : Value}
    {od_Web_put an_Web_put : Option Addr} {sl_Web_put : Array (Option Value)} {oc_Web_put kV_Web_put dc_Web_put pm_Web_put cd_Web_put ct_Web_put : Value}
    {od_Web_take an_Web_take : Option Addr} {sl_Web_take : Array (Option Value)} {oc_Web_take kV_Web_take dc_Web_take pm_Web_take cd_Web_take ct_Web_take : Value}
    {od_Web_grow an_Web_grow : Option Addr} {sl_Web_grow : Array (Option Value)} {oc_Web_grow kV_Web_grow dc_Web_grow pm_Web_grow cd_Web_grow ct_Web_grow : Value}
    {od_Web_beside an_Web_beside : Option Addr} {sl_Web_beside : Array (Option Value)} {oc_Web_beside kV_Web_beside dc_Web_beside pm_Web_beside cd_Web_beside ct_Web_beside : Value}
    {od_Web_ties an_Web_ties : Option Addr} {sl_Web_ties : Array (Option Value)} {oc_Web_ties kV_Web_ties dc_Web_ties pm_Web_ties cd_Web_ties ct_Web_ties : Value}
    (l_is_among : K.lookup a_is_among = some ⟨oc_is_among, od_is_among, .func (PySem.W.fnOf "is_among" "is_among" (defArgs st_is_among) (defBody st_is_among) (defScope st_is_among) .none kV_is_among dc_is_among pm_is_among an_is_among cd_is_among ct_is_among), sl_is_among⟩)
    (c_is_among : PySem.W.codeIn K cd_is_among "is_among" = true)
    (k_is_among : PySem.W.keepIn K (.ref a_is_among) = true)
    (n_is_among : PySem.W.nsIn K mainGlobals "is_among" = some (some (.ref a_is_among)))
    (l_points_in : K.lookup a_points_in = some ⟨oc_points_in, od_points_in, .func (PySem.W.fnOf "points_in" "points_in" (defArgs st_points_in) (defBody st_points_in) (defScope st_points_in) .none kV_points_in dc_points_in pm_points_in an_points_in cd_points_in ct_points_in), sl_points_in⟩)
    (c_points_in : PySem.W.codeIn K cd_points_in "points_in" = true)
    (k_points_in : PySem.W.keepIn K (.ref a_points_in) = true)
    (n_points_in : PySem.W.nsIn K mainGlobals "points_in" = some (some (.ref a_points_in)))
    (l__law_mixed : K.lookup a__law_mixed = some ⟨oc__law_mixed, od__law_mixed, .func (PySem.W.fnOf "_law_mixed" "_law_mixed" (defArgs st__law_mixed) (defBody st__law_mixed) (defScope st__law_mixed) .none kV__law_mixed dc__law_mixed pm__law_mixed an__law_mixed cd__law_mixed ct__law_mixed), sl__law_mixed⟩)
    (c__law_mixed : PySem.W.codeIn K cd__law_mixed "_law_mixed" = true)
    (k__law_mixed : PySem.W.keepIn K (.ref a__law_mixed) = true)
    (n__law_mixed : PySem.W.nsIn K mainGlobals "_law_mixed" = some (some (.ref a__law_mixed)))
    (l__law_number : K.lookup a__law_number = some ⟨oc__law_number, od__law_number, .func (PySem.W.fnOf "_law_number" "_law_number" (defArgs st__law_number) (defBody st__law_number) (defScope st__law_number) .none kV__law_number dc__law_number pm__law_number an__law_number cd__law_number ct__law_number), sl__law_number⟩)
    (c__law_number : PySem.W.codeIn K cd__law_number "_law_number" = true)
    (k__law_number : PySem.W.keepIn K (.ref a__law_number) = true)
    (n__law_number : PySem.W.nsIn K mainGlobals "_law_number" = some (some (.ref a__law_number)))
    (l__law_kind : K.lookup a__law_kind = some ⟨oc__law_kind, od__law_kind, .func (PySem.W.fnOf "_law_kind" "_law_kind" (defArgs st__law_kind) (defBody st__law_kind) (defScope st__law_kind) .none kV__law_kind dc__law_kind pm__law_kind an__law_kind cd__law_kind ct__law_kind), sl__law_kind⟩)
    (c__law_kind : PySem.W.codeIn K cd__law_kind "_law_kind" = true)
    (k__law_kind : PySem.W.keepIn K (.ref a__law_kind) = true)
    (n__law_kind : PySem.W.nsIn K mainGlobals "_law_kind" = some (some (.ref a__law_kind)))
    (l__law_whole : K.lookup a__law_whole = some ⟨oc__law_whole, od__law_whole, .func (PySem.W.fnOf "_law_whole" "_law_whole" (defArgs st__law_whole) (defBody st__law_whole) (defScope st__law_whole) .none kV__law_whole dc__law_whole pm__law_whole an__law_whole cd__law_whole ct__law_whole), sl__law_whole⟩)
    (c__law_whole : PySem.W.codeIn K cd__law_whole "_law_whole" = true)
    (k__law_whole : PySem.W.keepIn K (.ref a__law_whole) = true)
    (n__law_whole : PySem.W.nsIn K mainGlobals "_law_whole" = some (some (.ref a__law_whole)))
    (l__law_is_point : K.lookup a__law_is_point = some ⟨oc__law_is_point, od__law_is_point, .func (PySem.W.fnOf "_law_is_point" "_law_is_point" (defArgs st__law_is_point) (defBody st__law_is_point) (defScope st__law_is_point) .none kV__law_is_point dc__law_is_point pm__law_is_point an__law_is_point cd__law_is_point ct__law_is_point), sl__law_is_point⟩)
    (c__law_is_point : PySem.W.codeIn K cd__law_is_point "_law_is_point" = true)
    (k__law_is_point : PySem.W.keepIn K (.ref a__law_is_point) = true)
    (n__law_is_point : PySem.W.nsIn K mainGlobals "_law_is_point" = some (some (.ref a__law_is_point)))
    (l__law_due : K.lookup a__law_due = some ⟨oc__law_due, od__law_due, .func (PySem.W.fnOf "_law_due" "_law_due" (defArgs st__law_due) (defBody st__law_due) (defScope st__law_due) .none kV__law_due dc__law_due pm__law_due an__law_due cd__law_due ct__law_due), sl__law_due⟩)
    (c__law_due : PySem.W.codeIn K cd__law_due "_law_due" = true)
    (k__law_due : PySem.W.keepIn K (.ref a__law_due) = true)
    (n__law_due : PySem.W.nsIn K mainGlobals "_law_due" = some (some (.ref a__law_due)))
    (l__law_call : K.lookup a__law_call = some ⟨oc__law_call, od__law_call, .func (PySem.W.fnOf "_law_call" "_law_call" (defArgs st__law_call) (defBody st__law_call) (defScope st__law_call) .none kV__law_call dc__law_call pm__law_call an__law_call cd__law_call ct__law_call), sl__law_call⟩)
    (c__law_call : PySem.W.codeIn K cd__law_call "_law_call" = true)
    (k__law_call : PySem.W.keepIn K (.ref a__law_call) = true)
    (n__law_call : PySem.W.nsIn K mainGlobals "_law_call" = some (some (.ref a__law_call)))
    (l__law_said : K.lookup a__law_said = some ⟨oc__law_said, od__law_said, .func (PySem.W.fnOf "_law_said" "_law_said" (defArgs st__law_said) (defBody st__law_said) (defScope st__law_said) .none kV__law_said dc__law_said pm__law_said an__law_said cd__law_said ct__law_said), sl__law_said⟩)
    (c__law_said : PySem.W.codeIn K cd__law_said "_law_said" = true)
    (k__law_said : PySem.W.keepIn K (.ref a__law_said) = true)
    (n__law_said : PySem.W.nsIn K mainGlobals "_law_said" = some (some (.ref a__law_said)))
    (l__law_done : K.lookup a__law_done = some ⟨oc__law_done, od__law_done, .func (PySem.W.fnOf "_law_done" "_law_done" (defArgs st__law_done) (defBody st__law_done) (defScope st__law_done) .none kV__law_done dc__law_done pm__law_done an__law_done cd__law_done ct__law_done), sl__law_done⟩)
    (c__law_done : PySem.W.codeIn K cd__law_done "_law_done" = true)
    (k__law_done : PySem.W.keepIn K (.ref a__law_done) = true)
    (n__law_done : PySem.W.nsIn K mainGlobals "_law_done" = some (some (.ref a__law_done)))
    (l__law_beside_refused : K.lookup a__law_beside_refused = some ⟨oc__law_beside_refused, od__law_beside_refused, .func (PySem.W.fnOf "_law_beside_refused" "_law_beside_refused" (defArgs st__law_beside_refused) (defBody st__law_beside_refused) (defScope st__law_beside_refused) .none kV__law_beside_refused dc__law_beside_refused pm__law_beside_refused an__law_beside_refused cd__law_beside_refused ct__law_beside_refused), sl__law_beside_refused⟩)
    (c__law_beside_refused : PySem.W.codeIn K cd__law_beside_refused "_law_beside_refused" = true)
    (k__law_beside_refused : PySem.W.keepIn K (.ref a__law_beside_refused) = true)
    (n__law_beside_refused : PySem.W.nsIn K mainGlobals "_law_beside_refused" = some (some (.ref a__law_beside_refused)))
    (l__law_looked : K.lookup a__law_looked = some ⟨oc__law_looked, od__law_looked, .func (PySem.W.fnOf "_law_looked" "_law_looked" (defArgs st__law_looked) (defBody st__law_looked) (defScope st__law_looked) .none kV__law_looked dc__law_looked pm__law_looked an__law_looked cd__law_looked ct__law_looked), sl__law_looked⟩)
    (c__law_looked : PySem.W.codeIn K cd__law_looked "_law_looked" = true)
    (k__law_looked : PySem.W.keepIn K (.ref a__law_looked) = true)
    (n__law_looked : PySem.W.nsIn K mainGlobals "_law_looked" = some (some (.ref a__law_looked)))
    (l__law_size_refused : K.lookup a__law_size_refused = some ⟨oc__law_size_refused, od__law_size_refused, .func (PySem.W.fnOf "_law_size_refused" "_law_size_refused" (defArgs st__law_size_refused) (defBody st__law_size_refused) (defScope st__law_size_refused) .none kV__law_size_refused dc__law_size_refused pm__law_size_refused an__law_size_refused cd__law_size_refused ct__law_size_refused), sl__law_size_refused⟩)
    (c__law_size_refused : PySem.W.codeIn K cd__law_size_refused "_law_size_refused" = true)
    (k__law_size_refused : PySem.W.keepIn K (.ref a__law_size_refused) = true)
    (n__law_size_refused : PySem.W.nsIn K mainGlobals "_law_size_refused" = some (some (.ref a__law_size_refused)))
    (l_law : K.lookup a_law = some ⟨oc_law, od_law, .func (PySem.W.fnOf "law" "law" (defArgs st_law) (defBody st_law) (defScope st_law) .none kV_law dc_law pm_law an_law cd_law ct_law), sl_law⟩)
    (c_law : PySem.W.codeIn K cd_law "law" = true)
    (k_law : PySem.W.keepIn K (.ref a_law) = true)
    (n_law : PySem.W.nsIn K mainGlobals "law" = some (some (.ref a_law)))
    (l_Web_init : K.lookup a_Web_init = some ⟨oc_Web_init, od_Web_init, .func (PySem.W.fnOf "__init__" "Web.__init__" (defArgs st_Web_init) (defBody st_Web_init) (defScope st_Web_init) .none kV_Web_init dc_Web_init pm_Web_init an_Web_init cd_Web_init ct_Web_init), sl_Web_init⟩)
    (c_Web_init : PySem.W.codeIn K cd_Web_init "Web.__init__" = true)
    (k_Web_init : PySem.W.keepIn K (.ref a_Web_init) = true)
    (l_Web_many : K.lookup a_Web_many = some ⟨oc_Web_many, od_Web_many, .func (PySem.W.fnOf "many" "Web.many" (defArgs st_Web_many) (defBody st_Web_many) (defScope st_Web_many) .none kV_Web_many dc_Web_many pm_Web_many an_Web_many cd_Web_many ct_Web_many), sl_Web_many⟩)
    (c_Web_many : PySem.W.codeIn K cd_Web_many "Web.many" = true)
    (k_Web_many : PySem.W.keepIn K (.ref a_Web_many) = true)
    (l_Web_need_point : K.lookup a_Web_need_point = some ⟨oc_Web_need_point, od_Web_need_point, .func (PySem.W.fnOf "need_point" "Web.need_point" (defArgs st_Web_need_point) (defBody st_Web_need_point) (defScope st_Web_need_point) .none kV_Web_need_point dc_Web_need_point pm_Web_need_point an_Web_need_point cd_Web_need_point ct_Web_need_point), sl_Web_need_point⟩)
    (c_Web_need_point : PySem.W.codeIn K cd_Web_need_point "Web.need_point" = true)
    (k_Web_need_point : PySem.W.keepIn K (.ref a_Web_need_point) = true)
    (l_Web_has : K.lookup a_Web_has = some ⟨oc_Web_has, od_Web_has, .func (PySem.W.fnOf "has" "Web.has" (defArgs st_Web_has) (defBody st_Web_has) (defScope st_Web_has) .none kV_Web_has dc_Web_has pm_Web_has an_Web_has cd_Web_has ct_Web_has), sl_Web_has⟩)
    (c_Web_has : PySem.W.codeIn K cd_Web_has "Web.has" = true)
    (k_Web_has : PySem.W.keepIn K (.ref a_Web_has) = true)
    (l_Web_change : K.lookup a_Web_change = some ⟨oc_Web_change, od_Web_change, .func (PySem.W.fnOf "change" "Web.change" (defArgs st_Web_change) (defBody st_Web_change) (defScope st_Web_change) .none kV_Web_change dc_Web_change pm_Web_change an_Web_change cd_Web_change ct_Web_change), sl_Web_change⟩)
    (c_Web_change : PySem.W.codeIn K cd_Web_change "Web.change" = true)
    (k_Web_change : PySem.W.keepIn K (.ref a_Web_change) = true)
    (l_Web_put : K.lookup a_Web_put = some ⟨oc_Web_put, od_Web_put, .func (PySem.W.fnOf "put" "Web.put" (defArgs st_Web_put) (defBody st_Web_put) (defScope st_Web_put) .none kV_Web_put dc_Web_put pm_Web_put an_Web_put cd_Web_put ct_Web_put), sl_Web_put⟩)
    (c_Web_put : PySem.W.codeIn K cd_Web_put "Web.put" = true)
    (k_Web_put : PySem.W.keepIn K (.ref a_Web_put) = true)
    (l_Web_take : K.lookup a_Web_take = some ⟨oc_Web_take, od_Web_take, .func (PySem.W.fnOf "take" "Web.take" (defArgs st_Web_take) (defBody st_Web_take) (defScope st_Web_take) .none kV_Web_take dc_Web_take pm_Web_take an_Web_take cd_Web_take ct_Web_take), sl_Web_take⟩)
    (c_Web_take : PySem.W.codeIn K cd_Web_take "Web.take" = true)
    (k_Web_take : PySem.W.keepIn K (.ref a_Web_take) = true)
    (l_Web_grow : K.lookup a_Web_grow = some ⟨oc_Web_grow, od_Web_grow, .func (PySem.W.fnOf "grow" "Web.grow" (defArgs st_Web_grow) (defBody st_Web_grow) (defScope st_Web_grow) .none kV_Web_grow dc_Web_grow pm_Web_grow an_Web_grow cd_Web_grow ct_Web_grow), sl_Web_grow⟩)
    (c_Web_grow : PySem.W.codeIn K cd_Web_grow "Web.grow" = true)
    (k_Web_grow : PySem.W.keepIn K (.ref a_Web_grow) = true)
    (l_Web_beside : K.lookup a_Web_beside = some ⟨oc_Web_beside, od_Web_beside, .func (PySem.W.fnOf "beside" "Web.beside" (defArgs st_Web_beside) (defBody st_Web_beside) (defScope st_Web_beside) .none kV_Web_beside dc_Web_beside pm_Web_beside an_Web_beside cd_Web_beside ct_Web_beside), sl_Web_beside⟩)
    (c_Web_beside : PySem.W.codeIn K cd_Web_beside "Web.beside" = true)
    (k_Web_beside : PySem.W.keepIn K (.ref a_Web_beside) = true)
    (l_Web_ties : K.lookup a_Web_ties = some ⟨oc_Web_ties, od_Web_ties, .func (PySem.W.fnOf "ties" "Web.ties" (defArgs st_Web_ties) (defBody st_Web_ties) (defScope st_Web_ties) .none kV_Web_ties dc_Web_ties pm_Web_ties an_Web_ties cd_Web_ties ct_Web_ties), sl_Web_ties⟩)
    (c_Web_ties : PySem.W.codeIn K cd_Web_ties "Web.ties" = true)
    (k_Web_ties : PySem.W.keepIn K (.ref a_Web_ties) = true)
    (pg_Web : PySem.W.plainGet K c_Web Str.empty = true)
    (hd_Web : PySem.W.hasDictIn K c_Web = true)
    (po_Web : PySem.W.plainOver K c_Web = true)
    (sa_Web : PySem.W.findIn K (.ref c_Web) "__setattr__" = some (some (.builtin "object.__setattr__")))
    (n_Web : PySem.W.nsIn K mainGlobals "Web" = some (some (.ref c_Web)))
    (mk_Web : PySem.W.makesIn K c_Web = true)
    (in_Web : PySem.W.findIn K (.ref c_Web) "__init__" = some (some (.ref a_Web_init)))
    (kp_Web : PySem.W.keepIn K (.ref c_Web) = true)
    (if_Web : PySem.W.isFn K (.ref a_Web_init) = true)
    (f_Web_near : PySem.W.findIn K (.ref c_Web) "near" = some none)
    (m_Web_many : PySem.W.findIn K (.ref c_Web) "many" = some (some (.ref a_Web_many)))
    (mf_Web_many : PySem.W.isFn K (.ref a_Web_many) = true)
    (m_Web_need_point : PySem.W.findIn K (.ref c_Web) "need_point" = some (some (.ref a_Web_need_point)))
    (mf_Web_need_point : PySem.W.isFn K (.ref a_Web_need_point) = true)
    (m_Web_has : PySem.W.findIn K (.ref c_Web) "has" = some (some (.ref a_Web_has)))
    (mf_Web_has : PySem.W.isFn K (.ref a_Web_has) = true)
    (m_Web_change : PySem.W.findIn K (.ref c_Web) "change" = some (some (.ref a_Web_change)))
    (mf_Web_change : PySem.W.isFn K (.ref a_Web_change) = true)
    (m_Web_put : PySem.W.findIn K (.ref c_Web) "put" = some (some (.ref a_Web_put)))
    (mf_Web_put : PySem.W.isFn K (.ref a_Web_put) = true)
    (m_Web_take : PySem.W.findIn K (.ref c_Web) "take" = some (some (.ref a_Web_take)))
    (mf_Web_take : PySem.W.isFn K (.ref a_Web_take) = true)
    (m_Web_grow : PySem.W.findIn K (.ref c_Web) "grow" = some (some (.ref a_Web_grow)))
    (mf_Web_grow : PySem.W.isFn K (.ref a_Web_grow) = true)
    (m_Web_beside : PySem.W.findIn K (.ref c_Web) "beside" = some (some (.ref a_Web_beside)))
    (mf_Web_beside : PySem.W.isFn K (.ref a_Web_beside) = true)
    (m_Web_ties : PySem.W.findIn K (.ref c_Web) "ties" = some (some (.ref a_Web_ties)))
    (mf_Web_ties : PySem.W.isFn K (.ref a_Web_ties) = true)
    (spc : PySem.W.specialIn K (.builtin "object.__class__") "__get__" = some (some (.builtin "getset_descriptor.__get__")))
    (tkc : PySem.W.takesIn K (.builtin "object.__class__") = some true)
    (n_JoinError : PySem.W.nsIn K mainGlobals "JoinError" = some (some (.ref c_JoinError)))
    (be_JoinError : PySem.W.subIn K (.ref c_JoinError) (.type "BaseException") = some true)
    (te_JoinError : PySem.W.typeIn K (.ref c_JoinError) = some (.type "type"))
    (is_JoinError : PySem.W.isClsIn K c_JoinError = true)
    (hx_JoinError : PySem.W.hasDictIn K c_JoinError = true)
    (sb_JoinError_JoinError : PySem.W.subIn K (.ref c_JoinError) (.ref c_JoinError) = some true)
    (n_BadSize : PySem.W.nsIn K mainGlobals "BadSize" = some (some (.ref c_BadSize)))
    (be_BadSize : PySem.W.subIn K (.ref c_BadSize) (.type "BaseException") = some true)
    (te_BadSize : PySem.W.typeIn K (.ref c_BadSize) = some (.type "type"))
    (is_BadSize : PySem.W.isClsIn K c_BadSize = true)
    (hx_BadSize : PySem.W.hasDictIn K c_BadSize = true)
    (sb_BadSize_BadSize : PySem.W.subIn K (.ref c_BadSize) (.ref c_BadSize) = some true)
    (x_BadSize : PySem.W.excIn K c_BadSize [.type "ValueError", .type "Exception", .type "BaseException", .type "object"] "ValueError.__new__" = true)
    (kp_BadSize : PySem.W.keepIn K (.ref c_BadSize) = true)
    (xg_BadSize : PySem.W.findIn K (.ref c_BadSize) "__getattribute__" = some (some (.builtin "BaseException.__getattribute__")))
    (xk_BadSize : PySem.W.findIn K (.ref c_BadSize) "__getattr__" = some none)
    (xa_BadSize : PySem.W.findIn K (.ref c_BadSize) "__class__" = some (some (.builtin "object.__class__")))
    (xm_BadSize : PySem.W.mroIn K c_BadSize (.type "object") = some true)
    (sb_BadSize_JoinError : PySem.W.subIn K (.ref c_BadSize) (.ref c_JoinError) = some true)
    (sb_BadSize_BadPoint : PySem.W.subIn K (.ref c_BadSize) (.ref c_BadPoint) = some false)
    (sb_BadSize_Twice : PySem.W.subIn K (.ref c_BadSize) (.ref c_Twice) = some false)
    (sb_BadSize_NoTie : PySem.W.subIn K (.ref c_BadSize) (.ref c_NoTie) = some false)
    (sb_BadSize_TooMany : PySem.W.subIn K (.ref c_BadSize) (.ref c_TooMany) = some false)
    (sb_BadSize_NoTree : PySem.W.subIn K (.ref c_BadSize) (.ref c_NoTree) = some false)
    (sb_BadSize_BadTree : PySem.W.subIn K (.ref c_BadSize) (.ref c_BadTree) = some false)
    (sb_BadSize_BadText : PySem.W.subIn K (.ref c_BadSize) (.ref c_BadText) = some false)
    (sv_BadSize : PySem.W.subIn K (.ref c_BadSize) (.type "ValueError") = some true)
    (n_BadPoint : PySem.W.nsIn K mainGlobals "BadPoint" = some (some (.ref c_BadPoint)))
    (be_BadPoint : PySem.W.subIn K (.ref c_BadPoint) (.type "BaseException") = some true)
    (te_BadPoint : PySem.W.typeIn K (.ref c_BadPoint) = some (.type "type"))
    (is_BadPoint : PySem.W.isClsIn K c_BadPoint = true)
    (hx_BadPoint : PySem.W.hasDictIn K c_BadPoint = true)
    (sb_BadPoint_BadPoint : PySem.W.subIn K (.ref c_BadPoint) (.ref c_BadPoint) = some true)
    (x_BadPoint : PySem.W.excIn K c_BadPoint [.type "ValueError", .type "Exception", .type "BaseException", .type "object"] "ValueError.__new__" = true)
    (kp_BadPoint : PySem.W.keepIn K (.ref c_BadPoint) = true)
    (xg_BadPoint : PySem.W.findIn K (.ref c_BadPoint) "__getattribute__" = some (some (.builtin "BaseException.__getattribute__")))
    (xk_BadPoint : PySem.W.findIn K (.ref c_BadPoint) "__getattr__" = some none)
    (xa_BadPoint : PySem.W.findIn K (.ref c_BadPoint) "__class__" = some (some (.builtin "object.__class__")))
    (xm_BadPoint : PySem.W.mroIn K c_BadPoint (.type "object") = some true)
    (sb_BadPoint_JoinError : PySem.W.subIn K (.ref c_BadPoint) (.ref c_JoinError) = some true)
    (sb_BadPoint_BadSize : PySem.W.subIn K (.ref c_BadPoint) (.ref c_BadSize) = some false)
    (sb_BadPoint_Twice : PySem.W.subIn K (.ref c_BadPoint) (.ref c_Twice) = some false)
    (sb_BadPoint_NoTie : PySem.W.subIn K (.ref c_BadPoint) (.ref c_NoTie) = some false)
    (sb_BadPoint_TooMany : PySem.W.subIn K (.ref c_BadPoint) (.ref c_TooMany) = some false)
    (sb_BadPoint_NoTree : PySem.W.subIn K (.ref c_BadPoint) (.ref c_NoTree) = some false)
    (sb_BadPoint_BadTree : PySem.W.subIn K (.ref c_BadPoint) (.ref c_BadTree) = some false)
    (sb_BadPoint_BadText : PySem.W.subIn K (.ref c_BadPoint) (.ref c_BadText) = some false)
    (sv_BadPoint : PySem.W.subIn K (.ref c_BadPoint) (.type "ValueError") = some true)
    (n_Twice : PySem.W.nsIn K mainGlobals "Twice" = some (some (.ref c_Twice)))
    (be_Twice : PySem.W.subIn K (.ref c_Twice) (.type "BaseException") = some true)
    (te_Twice : PySem.W.typeIn K (.ref c_Twice) = some (.type "type"))
    (is_Twice : PySem.W.isClsIn K c_Twice = true)
    (hx_Twice : PySem.W.hasDictIn K c_Twice = true)
    (sb_Twice_Twice : PySem.W.subIn K (.ref c_Twice) (.ref c_Twice) = some true)
    (x_Twice : PySem.W.excIn K c_Twice [.type "ValueError", .type "Exception", .type "BaseException", .type "object"] "ValueError.__new__" = true)
    (kp_Twice : PySem.W.keepIn K (.ref c_Twice) = true)
    (xg_Twice : PySem.W.findIn K (.ref c_Twice) "__getattribute__" = some (some (.builtin "BaseException.__getattribute__")))
    (xk_Twice : PySem.W.findIn K (.ref c_Twice) "__getattr__" = some none)
    (xa_Twice : PySem.W.findIn K (.ref c_Twice) "__class__" = some (some (.builtin "object.__class__")))
    (xm_Twice : PySem.W.mroIn K c_Twice (.type "object") = some true)
    (sb_Twice_JoinError : PySem.W.subIn K (.ref c_Twice) (.ref c_JoinError) = some true)
    (sb_Twice_BadSize : PySem.W.subIn K (.ref c_Twice) (.ref c_BadSize) = some false)
    (sb_Twice_BadPoint : PySem.W.subIn K (.ref c_Twice) (.ref c_BadPoint) = some false)
    (sb_Twice_NoTie : PySem.W.subIn K (.ref c_Twice) (.ref c_NoTie) = some false)
    (sb_Twice_TooMany : PySem.W.subIn K (.ref c_Twice) (.ref c_TooMany) = some false)
    (sb_Twice_NoTree : PySem.W.subIn K (.ref c_Twice) (.ref c_NoTree) = some false)
    (sb_Twice_BadTree : PySem.W.subIn K (.ref c_Twice) (.ref c_BadTree) = some false)
    (sb_Twice_BadText : PySem.W.subIn K (.ref c_Twice) (.ref c_BadText) = some false)
    (sv_Twice : PySem.W.subIn K (.ref c_Twice) (.type "ValueError") = some true)
    (n_NoTie : PySem.W.nsIn K mainGlobals "NoTie" = some (some (.ref c_NoTie)))
    (be_NoTie : PySem.W.subIn K (.ref c_NoTie) (.type "BaseException") = some true)
    (te_NoTie : PySem.W.typeIn K (.ref c_NoTie) = some (.type "type"))
    (is_NoTie : PySem.W.isClsIn K c_NoTie = true)
    (hx_NoTie : PySem.W.hasDictIn K c_NoTie = true)
    (sb_NoTie_NoTie : PySem.W.subIn K (.ref c_NoTie) (.ref c_NoTie) = some true)
    (x_NoTie : PySem.W.excIn K c_NoTie [.type "ValueError", .type "Exception", .type "BaseException", .type "object"] "ValueError.__new__" = true)
    (kp_NoTie : PySem.W.keepIn K (.ref c_NoTie) = true)
    (xg_NoTie : PySem.W.findIn K (.ref c_NoTie) "__getattribute__" = some (some (.builtin "BaseException.__getattribute__")))
    (xk_NoTie : PySem.W.findIn K (.ref c_NoTie) "__getattr__" = some none)
    (xa_NoTie : PySem.W.findIn K (.ref c_NoTie) "__class__" = some (some (.builtin "object.__class__")))
    (xm_NoTie : PySem.W.mroIn K c_NoTie (.type "object") = some true)
    (sb_NoTie_JoinError : PySem.W.subIn K (.ref c_NoTie) (.ref c_JoinError) = some true)
    (sb_NoTie_BadSize : PySem.W.subIn K (.ref c_NoTie) (.ref c_BadSize) = some false)
    (sb_NoTie_BadPoint : PySem.W.subIn K (.ref c_NoTie) (.ref c_BadPoint) = some false)
    (sb_NoTie_Twice : PySem.W.subIn K (.ref c_NoTie) (.ref c_Twice) = some false)
    (sb_NoTie_TooMany : PySem.W.subIn K (.ref c_NoTie) (.ref c_TooMany) = some false)
    (sb_NoTie_NoTree : PySem.W.subIn K (.ref c_NoTie) (.ref c_NoTree) = some false)
    (sb_NoTie_BadTree : PySem.W.subIn K (.ref c_NoTie) (.ref c_BadTree) = some false)
    (sb_NoTie_BadText : PySem.W.subIn K (.ref c_NoTie) (.ref c_BadText) = some false)
    (sv_NoTie : PySem.W.subIn K (.ref c_NoTie) (.type "ValueError") = some true)
    (n_TooMany : PySem.W.nsIn K mainGlobals "TooMany" = some (some (.ref c_TooMany)))
    (be_TooMany : PySem.W.subIn K (.ref c_TooMany) (.type "BaseException") = some true)
    (te_TooMany : PySem.W.typeIn K (.ref c_TooMany) = some (.type "type"))
    (is_TooMany : PySem.W.isClsIn K c_TooMany = true)
    (hx_TooMany : PySem.W.hasDictIn K c_TooMany = true)
    (sb_TooMany_TooMany : PySem.W.subIn K (.ref c_TooMany) (.ref c_TooMany) = some true)
    (x_TooMany : PySem.W.excIn K c_TooMany [.type "ValueError", .type "Exception", .type "BaseException", .type "object"] "ValueError.__new__" = true)
    (kp_TooMany : PySem.W.keepIn K (.ref c_TooMany) = true)
    (xg_TooMany : PySem.W.findIn K (.ref c_TooMany) "__getattribute__" = some (some (.builtin "BaseException.__getattribute__")))
    (xk_TooMany : PySem.W.findIn K (.ref c_TooMany) "__getattr__" = some none)
    (xa_TooMany : PySem.W.findIn K (.ref c_TooMany) "__class__" = some (some (.builtin "object.__class__")))
    (xm_TooMany : PySem.W.mroIn K c_TooMany (.type "object") = some true)
    (sb_TooMany_JoinError : PySem.W.subIn K (.ref c_TooMany) (.ref c_JoinError) = some true)
    (sb_TooMany_BadSize : PySem.W.subIn K (.ref c_TooMany) (.ref c_BadSize) = some false)
    (sb_TooMany_BadPoint : PySem.W.subIn K (.ref c_TooMany) (.ref c_BadPoint) = some false)
    (sb_TooMany_Twice : PySem.W.subIn K (.ref c_TooMany) (.ref c_Twice) = some false)
    (sb_TooMany_NoTie : PySem.W.subIn K (.ref c_TooMany) (.ref c_NoTie) = some false)
    (sb_TooMany_NoTree : PySem.W.subIn K (.ref c_TooMany) (.ref c_NoTree) = some false)
    (sb_TooMany_BadTree : PySem.W.subIn K (.ref c_TooMany) (.ref c_BadTree) = some false)
    (sb_TooMany_BadText : PySem.W.subIn K (.ref c_TooMany) (.ref c_BadText) = some false)
    (sv_TooMany : PySem.W.subIn K (.ref c_TooMany) (.type "ValueError") = some true)
    (n_NoTree : PySem.W.nsIn K mainGlobals "NoTree" = some (some (.ref c_NoTree)))
    (be_NoTree : PySem.W.subIn K (.ref c_NoTree) (.type "BaseException") = some true)
    (te_NoTree : PySem.W.typeIn K (.ref c_NoTree) = some (.type "type"))
    (is_NoTree : PySem.W.isClsIn K c_NoTree = true)
    (hx_NoTree : PySem.W.hasDictIn K c_NoTree = true)
    (sb_NoTree_NoTree : PySem.W.subIn K (.ref c_NoTree) (.ref c_NoTree) = some true)
    (n_BadTree : PySem.W.nsIn K mainGlobals "BadTree" = some (some (.ref c_BadTree)))
    (be_BadTree : PySem.W.subIn K (.ref c_BadTree) (.type "BaseException") = some true)
    (te_BadTree : PySem.W.typeIn K (.ref c_BadTree) = some (.type "type"))
    (is_BadTree : PySem.W.isClsIn K c_BadTree = true)
    (hx_BadTree : PySem.W.hasDictIn K c_BadTree = true)
    (sb_BadTree_BadTree : PySem.W.subIn K (.ref c_BadTree) (.ref c_BadTree) = some true)
    (n_BadText : PySem.W.nsIn K mainGlobals "BadText" = some (some (.ref c_BadText)))
    (be_BadText : PySem.W.subIn K (.ref c_BadText) (.type "BaseException") = some true)
    (te_BadText : PySem.W.typeIn K (.ref c_BadText) = some (.type "type"))
    (is_BadText : PySem.W.isClsIn K c_BadText = true)
    (hx_BadText : PySem.W.hasDictIn K c_BadText = true)
    (sb_BadText_BadText : PySem.W.subIn K (.ref c_BadText) (.ref c_BadText) = some true)
    (n_MOST_POINTS : PySem.W.nsIn K mainGlobals "MOST_POINTS" = some (some (.int 30 t_MOST_POINTS)))
    (z_ValueError : PySem.W.nsIn K mainGlobals "ValueError" = some none)
    (z_bool : PySem.W.nsIn K mainGlobals "bool" = some none)
    (z_enumerate : PySem.W.nsIn K mainGlobals "enumerate" = some none)
    (z_int : PySem.W.nsIn K mainGlobals "int" = some none)
    (z_isinstance : PySem.W.nsIn K mainGlobals "isinstance" = some none)
    (z_len : PySem.W.nsIn K mainGlobals "len" = some none)
    (z_list : PySem.W.nsIn K mainGlobals "list" = some none)
    (z_max : PySem.W.nsIn K mainGlobals "max" = some none)
    (z_min : PySem.W.nsIn K mainGlobals "min" = some none)
    (z_range : PySem.W.nsIn K mainGlobals "range" = some none)
    (z_repr : PySem.W.nsIn K mainGlobals "repr" = some none)
    (z_sorted : PySem.W.nsIn K mainGlobals "sorted" = some none)
    (z_zip : PySem.W.nsIn K mainGlobals "zip" = some none)
    : ∃ fd : FuncData, (∀ (s : Shared) (u : Value), BindsTo s fd ⟨[u], []⟩ [("_law_script", u)]) ∧ ∀ base : Heap, K.In base → base.Ns mainGlobals mg → FnG P w K mg base 8 fa fd ["_law_script"] (sp_law K) := by
  obtain ⟨T, ed⟩ := all_mk X G l_is_among c_is_among k_is_among n_is_among l_points_in c_points_in k_points_in n_points_in l__law_mixed c__law_mixed k__law_mixed n__law_mixed l__law_number c__law_number k__law_number n__law_number l__law_kind c__law_kind k__law_kind n__law_kind l__law_whole c__law_whole k__law_whole n__law_whole l__law_is_point c__law_is_point k__law_is_point n__law_is_point l__law_due c__law_due k__law_due n__law_due l__law_call c__law_call k__law_call n__law_call l__law_said c__law_said k__law_said n__law_said l__law_done c__law_done k__law_done n__law_done l__law_beside_refused c__law_beside_refused k__law_beside_refused n__law_beside_refused l__law_looked c__law_looked k__law_looked n__law_looked l__law_size_refused c__law_size_refused k__law_size_refused n__law_size_refused l_law c_law k_law n_law l_Web_init c_Web_init k_Web_init l_Web_many c_Web_many k_Web_many l_Web_need_point c_Web_need_point k_Web_need_point l_Web_has c_Web_has k_Web_has l_Web_change c_Web_change k_Web_change l_Web_put c_Web_put k_Web_put l_Web_take c_Web_take k_Web_take l_Web_grow c_Web_grow k_Web_grow l_Web_beside c_Web_beside k_Web_beside l_Web_ties c_Web_ties k_Web_ties pg_Web hd_Web po_Web sa_Web n_Web mk_Web in_Web kp_Web if_Web f_Web_near m_Web_many mf_Web_many m_Web_need_point mf_Web_need_point m_Web_has mf_Web_has m_Web_change mf_Web_change m_Web_put mf_Web_put m_Web_take mf_Web_take m_Web_grow mf_Web_grow m_Web_beside mf_Web_beside m_Web_ties mf_Web_ties spc tkc n_JoinError be_JoinError te_JoinError is_JoinError hx_JoinError sb_JoinError_JoinError n_BadSize be_BadSize te_BadSize is_BadSize hx_BadSize sb_BadSize_BadSize x_BadSize kp_BadSize xg_BadSize xk_BadSize xa_BadSize xm_BadSize sb_BadSize_JoinError sb_BadSize_BadPoint sb_BadSize_Twice sb_BadSize_NoTie sb_BadSize_TooMany sb_BadSize_NoTree sb_BadSize_BadTree sb_BadSize_BadText sv_BadSize n_BadPoint be_BadPoint te_BadPoint is_BadPoint hx_BadPoint sb_BadPoint_BadPoint x_BadPoint kp_BadPoint xg_BadPoint xk_BadPoint xa_BadPoint xm_BadPoint sb_BadPoint_JoinError sb_BadPoint_BadSize sb_BadPoint_Twice sb_BadPoint_NoTie sb_BadPoint_TooMany sb_BadPoint_NoTree sb_BadPoint_BadTree sb_BadPoint_BadText sv_BadPoint n_Twice be_Twice te_Twice is_Twice hx_Twice sb_Twice_Twice x_Twice kp_Twice xg_Twice xk_Twice xa_Twice xm_Twice sb_Twice_JoinError sb_Twice_BadSize sb_Twice_BadPoint sb_Twice_NoTie sb_Twice_TooMany sb_Twice_NoTree sb_Twice_BadTree sb_Twice_BadText sv_Twice n_NoTie be_NoTie te_NoTie is_NoTie hx_NoTie sb_NoTie_NoTie x_NoTie kp_NoTie xg_NoTie xk_NoTie xa_NoTie xm_NoTie sb_NoTie_JoinError sb_NoTie_BadSize sb_NoTie_BadPoint sb_NoTie_Twice sb_NoTie_TooMany sb_NoTie_NoTree sb_NoTie_BadTree sb_NoTie_BadText sv_NoTie n_TooMany be_TooMany te_TooMany is_TooMany hx_TooMany sb_TooMany_TooMany x_TooMany kp_TooMany xg_TooMany xk_TooMany xa_TooMany xm_TooMany sb_TooMany_JoinError sb_TooMany_BadSize sb_TooMany_BadPoint sb_TooMany_Twice sb_TooMany_NoTie sb_TooMany_NoTree sb_TooMany_BadTree sb_TooMany_BadText sv_TooMany n_NoTree be_NoTree te_NoTree is_NoTree hx_NoTree sb_NoTree_NoTree n_BadTree be_BadTree te_BadTree is_BadTree hx_BadTree sb_BadTree_BadTree n_BadText be_BadText te_BadText is_BadText hx_BadText sb_BadText_BadText n_MOST_POINTS z_ValueError z_bool z_enumerate z_int z_isinstance z_len z_list z_max z_min z_range z_repr z_sorted z_zip
  have e := hmg.symm.trans T.g_law
  injection e with e
  injection e with e
  subst e
  exact ⟨T.d_law, fun s v => by rw [ed]; exact .of_eq rfl, fun base _ _ => ok_law T⟩
end
end J

open PySem PySem.W PyProof.Rows in
set_option maxRecDepth 100000 in
set_option maxHeartbeats 0 in
theorem PySem.Challenge.cw_joinside_k01_webs_holds : PySem.Challenge.rw_joinside_k01_webs.Holds := by
  w_on; o_law; k_head; (case hw => w_witness2)
  k_fill
  refine J.walk_ofG (l := PySem.Challenge.rw_joinside_k01_webs) (n := 63) (k := 8) (x := "_law_script") (sp := J.sp_law) rfl (by decide) rfl ⟨rfl, by decide, by decide⟩ (fun w h Y => PySem.W.kIn_of Y) ?F (fun K H a ns hl _ hS => ⟨a, ns, rfl, hS, hl, fun _ => rfl⟩)
  case F =>
    intro w mg fa h KX G hmg
    refine' J.fin KX G hmg ?l_is_among ?c_is_among ?k_is_among ?n_is_among ?l_points_in ?c_points_in ?k_points_in ?n_points_in ?l__law_mixed ?c__law_mixed ?k__law_mixed ?n__law_mixed ?l__law_number ?c__law_number ?k__law_number ?n__law_number ?l__law_kind ?c__law_kind ?k__law_kind ?n__law_kind ?l__law_whole ?c__law_whole ?k__law_whole ?n__law_whole ?l__law_is_point ?c__law_is_point ?k__law_is_point ?n__law_is_point ?l__law_due ?c__law_due ?k__law_due ?n__law_due ?l__law_call ?c__law_call ?k__law_call ?n__law_call ?l__law_said ?c__law_said ?k__law_said ?n__law_said ?l__law_done ?c__law_done ?k__law_done ?n__law_done ?l__law_beside_refused ?c__law_beside_refused ?k__law_beside_refused ?n__law_beside_refused ?l__law_looked ?c__law_looked ?k__law_looked ?n__law_looked ?l__law_size_refused ?c__law_size_refused ?k__law_size_refused ?n__law_size_refused ?l_law ?c_law ?k_law ?n_law ?l_Web_init ?c_Web_init ?k_Web_init ?l_Web_many ?c_Web_many ?k_Web_many ?l_Web_need_point ?c_Web_need_point ?k_Web_need_point ?l_Web_has ?c_Web_has ?k_Web_has ?l_Web_change ?c_Web_change ?k_Web_change ?l_Web_put ?c_Web_put ?k_Web_put ?l_Web_take ?c_Web_take ?k_Web_take ?l_Web_grow ?c_Web_grow ?k_Web_grow ?l_Web_beside ?c_Web_beside ?k_Web_beside ?l_Web_ties ?c_Web_ties ?k_Web_ties ?pg_Web ?hd_Web ?po_Web ?sa_Web ?n_Web ?mk_Web ?in_Web ?kp_Web ?if_Web ?f_Web_near ?m_Web_many ?mf_Web_many ?m_Web_need_point ?mf_Web_need_point ?m_Web_has ?mf_Web_has ?m_Web_change ?mf_Web_change ?m_Web_put ?mf_Web_put ?m_Web_take ?mf_Web_take ?m_Web_grow ?mf_Web_grow ?m_Web_beside ?mf_Web_beside ?m_Web_ties ?mf_Web_ties ?spc ?tkc ?n_JoinError ?be_JoinError ?te_JoinError ?is_JoinError ?hx_JoinError ?sb_JoinError_JoinError ?n_BadSize ?be_BadSize ?te_BadSize ?is_BadSize ?hx_BadSize ?sb_BadSize_BadSize ?x_BadSize ?kp_BadSize ?xg_BadSize ?xk_BadSize ?xa_BadSize ?xm_BadSize ?sb_BadSize_JoinError ?sb_BadSize_BadPoint ?sb_BadSize_Twice ?sb_BadSize_NoTie ?sb_BadSize_TooMany ?sb_BadSize_NoTree ?sb_BadSize_BadTree ?sb_BadSize_BadText ?sv_BadSize ?n_BadPoint ?be_BadPoint ?te_BadPoint ?is_BadPoint ?hx_BadPoint ?sb_BadPoint_BadPoint ?x_BadPoint ?kp_BadPoint ?xg_BadPoint ?xk_BadPoint ?xa_BadPoint ?xm_BadPoint ?sb_BadPoint_JoinError ?sb_BadPoint_BadSize ?sb_BadPoint_Twice ?sb_BadPoint_NoTie ?sb_BadPoint_TooMany ?sb_BadPoint_NoTree ?sb_BadPoint_BadTree ?sb_BadPoint_BadText ?sv_BadPoint ?n_Twice ?be_Twice ?te_Twice ?is_Twice ?hx_Twice ?sb_Twice_Twice ?x_Twice ?kp_Twice ?xg_Twice ?xk_Twice ?xa_Twice ?xm_Twice ?sb_Twice_JoinError ?sb_Twice_BadSize ?sb_Twice_BadPoint ?sb_Twice_NoTie ?sb_Twice_TooMany ?sb_Twice_NoTree ?sb_Twice_BadTree ?sb_Twice_BadText ?sv_Twice ?n_NoTie ?be_NoTie ?te_NoTie ?is_NoTie ?hx_NoTie ?sb_NoTie_NoTie ?x_NoTie ?kp_NoTie ?xg_NoTie ?xk_NoTie ?xa_NoTie ?xm_NoTie ?sb_NoTie_JoinError ?sb_NoTie_BadSize ?sb_NoTie_BadPoint ?sb_NoTie_Twice ?sb_NoTie_TooMany ?sb_NoTie_NoTree ?sb_NoTie_BadTree ?sb_NoTie_BadText ?sv_NoTie ?n_TooMany ?be_TooMany ?te_TooMany ?is_TooMany ?hx_TooMany ?sb_TooMany_TooMany ?x_TooMany ?kp_TooMany ?xg_TooMany ?xk_TooMany ?xa_TooMany ?xm_TooMany ?sb_TooMany_JoinError ?sb_TooMany_BadSize ?sb_TooMany_BadPoint ?sb_TooMany_Twice ?sb_TooMany_NoTie ?sb_TooMany_NoTree ?sb_TooMany_BadTree ?sb_TooMany_BadText ?sv_TooMany ?n_NoTree ?be_NoTree ?te_NoTree ?is_NoTree ?hx_NoTree ?sb_NoTree_NoTree ?n_BadTree ?be_BadTree ?te_BadTree ?is_BadTree ?hx_BadTree ?sb_BadTree_BadTree ?n_BadText ?be_BadText ?te_BadText ?is_BadText ?hx_BadText ?sb_BadText_BadText ?n_MOST_POINTS ?z_ValueError ?z_bool ?z_enumerate ?z_int ?z_isinstance ?z_len ?z_list ?z_max ?z_min ?z_range ?z_repr ?z_sorted ?z_zip
    (case n_is_among => k_is)
    (case n_points_in => k_is)
    (case n__law_mixed => k_is)
    (case n__law_number => k_is)
    (case n__law_kind => k_is)
    (case n__law_whole => k_is)
    (case n__law_is_point => k_is)
    (case n__law_due => k_is)
    (case n__law_call => k_is)
    (case n__law_said => k_is)
    (case n__law_done => k_is)
    (case n__law_beside_refused => k_is)
    (case n__law_looked => k_is)
    (case n__law_size_refused => k_is)
    (case n_law => k_is)
    (case n_Web => k_is)
    (case n_JoinError => k_is)
    (case n_BadSize => k_is)
    (case n_BadPoint => k_is)
    (case n_Twice => k_is)
    (case n_NoTie => k_is)
    (case n_TooMany => k_is)
    (case n_NoTree => k_is)
    (case n_BadTree => k_is)
    (case n_BadText => k_is)
    (case n_MOST_POINTS => k_is)
    (case in_Web => k_is)
    (case m_Web_many => k_is)
    (case m_Web_need_point => k_is)
    (case m_Web_has => k_is)
    (case m_Web_change => k_is)
    (case m_Web_put => k_is)
    (case m_Web_take => k_is)
    (case m_Web_grow => k_is)
    (case m_Web_beside => k_is)
    (case m_Web_ties => k_is)
    (case l_is_among => k_is)
    (case l_points_in => k_is)
    (case l__law_mixed => k_is)
    (case l__law_number => k_is)
    (case l__law_kind => k_is)
    (case l__law_whole => k_is)
    (case l__law_is_point => k_is)
    (case l__law_due => k_is)
    (case l__law_call => k_is)
    (case l__law_said => k_is)
    (case l__law_done => k_is)
    (case l__law_beside_refused => k_is)
    (case l__law_looked => k_is)
    (case l__law_size_refused => k_is)
    (case l_law => k_is)
    (case l_Web_init => k_is)
    (case l_Web_many => k_is)
    (case l_Web_need_point => k_is)
    (case l_Web_has => k_is)
    (case l_Web_change => k_is)
    (case l_Web_put => k_is)
    (case l_Web_take => k_is)
    (case l_Web_grow => k_is)
    (case l_Web_beside => k_is)
    (case l_Web_ties => k_is)
    (case c_is_among => k_is)
    (case k_is_among => k_is)
    (case c_points_in => k_is)
    (case k_points_in => k_is)
    (case c__law_mixed => k_is)
    (case k__law_mixed => k_is)
    (case c__law_number => k_is)
    (case k__law_number => k_is)
    (case c__law_kind => k_is)
    (case k__law_kind => k_is)
    (case c__law_whole => k_is)
    (case k__law_whole => k_is)
    (case c__law_is_point => k_is)
    (case k__law_is_point => k_is)
    (case c__law_due => k_is)
    (case k__law_due => k_is)
    (case c__law_call => k_is)
    (case k__law_call => k_is)
    (case c__law_said => k_is)
    (case k__law_said => k_is)
    (case c__law_done => k_is)
    (case k__law_done => k_is)
    (case c__law_beside_refused => k_is)
    (case k__law_beside_refused => k_is)
    (case c__law_looked => k_is)
    (case k__law_looked => k_is)
    (case c__law_size_refused => k_is)
    (case k__law_size_refused => k_is)
    (case c_law => k_is)
    (case k_law => k_is)
    (case c_Web_init => k_is)
    (case k_Web_init => k_is)
    (case c_Web_many => k_is)
    (case k_Web_many => k_is)
    (case c_Web_need_point => k_is)
    (case k_Web_need_point => k_is)
    (case c_Web_has => k_is)
    (case k_Web_has => k_is)
    (case c_Web_change => k_is)
    (case k_Web_change => k_is)
    (case c_Web_put => k_is)
    (case k_Web_put => k_is)
    (case c_Web_take => k_is)
    (case k_Web_take => k_is)
    (case c_Web_grow => k_is)
    (case k_Web_grow => k_is)
    (case c_Web_beside => k_is)
    (case k_Web_beside => k_is)
    (case c_Web_ties => k_is)
    (case k_Web_ties => k_is)
    (case pg_Web => k_is)
    (case hd_Web => k_is)
    (case po_Web => k_is)
    (case sa_Web => k_is)
    (case mk_Web => k_is)
    (case kp_Web => k_is)
    (case if_Web => k_is)
    (case f_Web_near => k_is)
    (case mf_Web_many => k_is)
    (case mf_Web_need_point => k_is)
    (case mf_Web_has => k_is)
    (case mf_Web_change => k_is)
    (case mf_Web_put => k_is)
    (case mf_Web_take => k_is)
    (case mf_Web_grow => k_is)
    (case mf_Web_beside => k_is)
    (case mf_Web_ties => k_is)
    (case spc => k_is)
    (case tkc => k_is)
    (case be_JoinError => k_is)
    (case te_JoinError => k_is)
    (case is_JoinError => k_is)
    (case hx_JoinError => k_is)
    (case sb_JoinError_JoinError => k_is)
    (case be_BadSize => k_is)
    (case te_BadSize => k_is)
    (case is_BadSize => k_is)
    (case hx_BadSize => k_is)
    (case sb_BadSize_BadSize => k_is)
    (case x_BadSize => k_exc)
    (case kp_BadSize => k_is)
    (case xg_BadSize => k_is)
    (case xk_BadSize => k_is)
    (case xa_BadSize => k_is)
    (case xm_BadSize => k_is)
    (case sb_BadSize_JoinError => k_is)
    (case sb_BadSize_BadPoint => k_is)
    (case sb_BadSize_Twice => k_is)
    (case sb_BadSize_NoTie => k_is)
    (case sb_BadSize_TooMany => k_is)
    (case sb_BadSize_NoTree => k_is)
    (case sb_BadSize_BadTree => k_is)
    (case sb_BadSize_BadText => k_is)
    (case sv_BadSize => k_is)
    (case be_BadPoint => k_is)
    (case te_BadPoint => k_is)
    (case is_BadPoint => k_is)
    (case hx_BadPoint => k_is)
    (case sb_BadPoint_BadPoint => k_is)
    (case x_BadPoint => k_exc)
    (case kp_BadPoint => k_is)
    (case xg_BadPoint => k_is)
    (case xk_BadPoint => k_is)
    (case xa_BadPoint => k_is)
    (case xm_BadPoint => k_is)
    (case sb_BadPoint_JoinError => k_is)
    (case sb_BadPoint_BadSize => k_is)
    (case sb_BadPoint_Twice => k_is)
    (case sb_BadPoint_NoTie => k_is)
    (case sb_BadPoint_TooMany => k_is)
    (case sb_BadPoint_NoTree => k_is)
    (case sb_BadPoint_BadTree => k_is)
    (case sb_BadPoint_BadText => k_is)
    (case sv_BadPoint => k_is)
    (case be_Twice => k_is)
    (case te_Twice => k_is)
    (case is_Twice => k_is)
    (case hx_Twice => k_is)
    (case sb_Twice_Twice => k_is)
    (case x_Twice => k_exc)
    (case kp_Twice => k_is)
    (case xg_Twice => k_is)
    (case xk_Twice => k_is)
    (case xa_Twice => k_is)
    (case xm_Twice => k_is)
    (case sb_Twice_JoinError => k_is)
    (case sb_Twice_BadSize => k_is)
    (case sb_Twice_BadPoint => k_is)
    (case sb_Twice_NoTie => k_is)
    (case sb_Twice_TooMany => k_is)
    (case sb_Twice_NoTree => k_is)
    (case sb_Twice_BadTree => k_is)
    (case sb_Twice_BadText => k_is)
    (case sv_Twice => k_is)
    (case be_NoTie => k_is)
    (case te_NoTie => k_is)
    (case is_NoTie => k_is)
    (case hx_NoTie => k_is)
    (case sb_NoTie_NoTie => k_is)
    (case x_NoTie => k_exc)
    (case kp_NoTie => k_is)
    (case xg_NoTie => k_is)
    (case xk_NoTie => k_is)
    (case xa_NoTie => k_is)
    (case xm_NoTie => k_is)
    (case sb_NoTie_JoinError => k_is)
    (case sb_NoTie_BadSize => k_is)
    (case sb_NoTie_BadPoint => k_is)
    (case sb_NoTie_Twice => k_is)
    (case sb_NoTie_TooMany => k_is)
    (case sb_NoTie_NoTree => k_is)
    (case sb_NoTie_BadTree => k_is)
    (case sb_NoTie_BadText => k_is)
    (case sv_NoTie => k_is)
    (case be_TooMany => k_is)
    (case te_TooMany => k_is)
    (case is_TooMany => k_is)
    (case hx_TooMany => k_is)
    (case sb_TooMany_TooMany => k_is)
    (case x_TooMany => k_exc)
    (case kp_TooMany => k_is)
    (case xg_TooMany => k_is)
    (case xk_TooMany => k_is)
    (case xa_TooMany => k_is)
    (case xm_TooMany => k_is)
    (case sb_TooMany_JoinError => k_is)
    (case sb_TooMany_BadSize => k_is)
    (case sb_TooMany_BadPoint => k_is)
    (case sb_TooMany_Twice => k_is)
    (case sb_TooMany_NoTie => k_is)
    (case sb_TooMany_NoTree => k_is)
    (case sb_TooMany_BadTree => k_is)
    (case sb_TooMany_BadText => k_is)
    (case sv_TooMany => k_is)
    (case be_NoTree => k_is)
    (case te_NoTree => k_is)
    (case is_NoTree => k_is)
    (case hx_NoTree => k_is)
    (case sb_NoTree_NoTree => k_is)
    (case be_BadTree => k_is)
    (case te_BadTree => k_is)
    (case is_BadTree => k_is)
    (case hx_BadTree => k_is)
    (case sb_BadTree_BadTree => k_is)
    (case be_BadText => k_is)
    (case te_BadText => k_is)
    (case is_BadText => k_is)
    (case hx_BadText => k_is)
    (case sb_BadText_BadText => k_is)
    (case z_ValueError => k_is)
    (case z_bool => k_is)
    (case z_enumerate => k_is)
    (case z_int => k_is)
    (case z_isinstance => k_is)
    (case z_len => k_is)
    (case z_list => k_is)
    (case z_max => k_is)
    (case z_min => k_is)
    (case z_range => k_is)
    (case z_repr => k_is)
    (case z_sorted => k_is)
    (case z_zip => k_is)
#print axioms PySem.Challenge.cw_joinside_k01_webs_holds
