import PyProof.Rows.All
import Wide.All
import OpenK.AllK
import Wide.FinOn
import PySem.Challenge.RW_formstead_k42_words_there_and_back
import HandS.ForMost
import HandS.ForExc
import HandS.IsInst
import HandS.Zip
import HandS.Strs
import HandS.ExcInit
import HandS.ExcIs
import HandS.ExcField
import HandS.TryMany
import HandS.EndTab
import PyProof.ReprDict
import HandS.HeadHook4
import HandS.HeadNt
import HandS.Head2
import HandS.HeadWalk
import HandS.Lambda
import KE.KExcIs
set_option Elab.async false
set_option linter.all false
set_option maxRecDepth 100000
set_option maxHeartbeats 4000000
namespace FS
open PySem PySem.Spec PyProof.Rows L2
/-! ### isinstance of a value of a built-in type, by the names alone -/
def tyN (H : Hp) : V → Option String
  | .non => some "NoneType"
  | .bl _ => some "bool"
  | .int _ => some "int"
  | .str _ => some "str"
  | .ref a => match H a with
    | some (.lst _) => some "list"
    | some (.tup _) => some "tuple"
    | some (.dK _) => some "dict"
    | _ => none
  | _ => none
def isOf (s n : String) : Bool := s == n || (s == "bool" && n == "int")
def tyNames : List String := ["NoneType", "bool", "int", "str", "list", "tuple", "dict"]
theorem kitB_all : ∀ s ∈ tyNames, ∀ n ∈ tyNames.tail, kitB s n = some (isOf s n) := by decide +kernel
theorem tyN_mem {H : Hp} {x : V} {s : String} (h : tyN H x = some s) : s ∈ tyNames := by
  unfold tyN at h
  split at h
  any_goals (cases h; decide)
  · split at h
    any_goals (cases h; decide)
    all_goals cases h
  all_goals cases h
theorem tyN_tyX {K : PySem.W.Frag} {H : Hp} {x : V} {s : String} (h : tyN H x = some s) : TyX K H x (.type s) := by
  unfold tyN at h
  split at h
  · cases h; exact .base .non
  · cases h; exact .base (.bl _)
  · cases h; exact .base (.int _)
  · cases h; exact .base (.str _)
  · split at h
    · rename_i e; cases h; exact .base (.lst e)
    · rename_i e; cases h; exact .base (.tup e)
    · rename_i e; cases h; exact .base (.dK e)
    · cases h
  · cases h
section
variable {X : Cx}
def rIsiN : List V → Hp → VK → Prop := fun xs H Q => match xs with
  | [x, .ty n] => ∃ s, tyN H x = some s ∧ n ∈ tyNames.tail ∧ Q (.bl (isOf s n)) H
  | _ => False
theorem call_isiN : CallR X (.builtin "isinstance") rIsiN := by
  intro pins s σ H xs us Q I r h
  match xs, h with
  | [x, .ty n], ⟨s', e, hn, q⟩ => exact call_isi pins s σ H _ us Q I r ⟨x, .ty n, .type s', .type n, isOf s' n, rfl, .ty n, tyN_tyX e, kit_ty (kitB_all s' (tyN_mem e) n hn), q⟩
/-- int(x) of an int -/
def rInt1 : List V → Hp → VK → Prop := fun xs H Q => match xs with
  | [.int i] => Q (.int i) H
  | _ => False
theorem call_int : CallR X (.type "int") rInt1 := by
  intro pins s σ H xs us Q I r h
  match xs, h with
  | [.int i], q => exact call_int1 pins s σ H _ us Q I r (.inl ⟨i, rfl, q⟩)
end
end FS
set_option maxHeartbeats 4000000
/-! several clauses «except C as n», one name for all of them -/
namespace FS
open PySem PySem.Spec PyProof.Rows L2
abbrev Hds := List (Value × (Addr → Value → Option Addr → TS))
def wAsN (K : PySem.W.Frag) (i : Nat) (Wout : WX) (D : Ends) : Hds → WX
  | [] => Wout
  | (c, ts) :: r => wAs K c i ts (wAsN K i Wout D r) D
inductive HdsAs (X : Cx) (n : Str) : List ExceptHandler → Hds → Prop
  | nil : HdsAs X n [] []
  | cons {x : Str} {c : Value} {ts : Addr → Value → Option Addr → TS} {b₀ : Stmt} {suite : List Stmt} {np pos' : Pos} {hds : List ExceptHandler} {l : Hds} (hc : Names X x c)
      (hsu : ∀ (a : Addr) (oe : Obj) (cls : Value) (d : Option Addr) (pn : List (Addr × Obj)), Zc cls d oe → (∃ vs, oe.data = .fields vs) → PSs (X.suite a ((a, oe) :: pn)) (b₀ :: suite) (ts a cls d)) (r : HdsAs X n hds l) :
      HdsAs X n (.ExceptHandler (some (.Name x np)) (some n) (b₀ :: suite) pos' :: hds) ((c, ts) :: l)
section
variable {X : Cx} {body : List Stmt} {h₀ : ExceptHandler} {hds : List ExceptHandler} {l : Hds} {pos : Pos} {tb : WX → TS} {Wout : WX} {i : Nat} {n : Str}
theorem ps_try_asN (hs : X.stack = X.env :: X.outer) (hf : X.env.frame = some X.env.locals) (hN : X.N.Nodup) (hi : X.N[i]? = some n) (hln : X.env.kindOf n = some .local) (tk : Takes X Wout)
    (hb : ∀ (W : WX) (pn : List (Addr × Obj)) (xe : Value → Shared → Prop), Takes (X.tr pn xe) W → PassesOwn (model X.prog X.w) X.A X.env xe → PSs (X.tr pn xe) body (tb W))
    (hh : HdsAs X n (h₀ :: hds) l) : PS X (.Try body (h₀ :: hds) [] [] pos) (fun D σ H => tb (fun cls d σ' H' => σ'.length = X.N.length → wAsN X.K i Wout D l cls d σ' H') D σ H) := by
  constructor
  intro pins s σ H D I h
  have ok := I.ok
  have frA : X.A.frames = some (X.env :: X.outer) := ok.frames.trans (congrArg some hs)
  have hloc : Loc X.env.scope n := .inl hln
  apply wpAny_Try_except
  refine wpAny_mono ((hb (fun cls d σ' H' => σ'.length = X.N.length → wAsN X.K i Wout D l cls d σ' H') (X.pn ++ pins) (fun e s₁ => wpAny (model X.prog X.w) X.A (noteFrame e X.env) (fun _ s₂ => wpAny (model X.prog X.w) X.A (setFlight e none)
    (fun _ s₃ => wpAny (model X.prog X.w) X.A (handleBy e X.env (h₀ :: hds)) (SP X pins D) X.xe s₃) X.xe s₂) X.xe s₁) (fun u s' xx => ?ctch) PassesOwn.looking).run [] s σ H D (I.toTry _) h) (fun f s1 hsp => ?thru) (fun e s1 he => he)
  case thru =>
    cases f with
    | ret u => obtain ⟨v, σ', H', J', r, q⟩ := hsp; exact ⟨v, σ', H', J'.ofTry ok, r, q⟩
    | brk => obtain ⟨σ', H', J', q⟩ := hsp; exact ⟨σ', H', J'.ofTry ok, q⟩
    | cont => obtain ⟨σ', H', J', q⟩ := hsp; exact ⟨σ', H', J'.ofTry ok, q⟩
    | next => obtain ⟨σ', H', J', q⟩ := hsp; exact wpAny_execs_nil ⟨σ', H', J'.ofTry ok, q⟩
  case ctch =>
    obtain ⟨a, B, sI, pins', σ', H', cls, d, rfl, J', nb, up, sky, na, os, ag, wish⟩ := xx
    have J : Inv X pins σ' H' sI := J'.ofTry ok
    have skyA : Sky B (X.env :: X.outer) a (Zc cls d) X.env.locals s'.heap := hs ▸ sky
    show wpAny (model X.prog X.w) X.A (noteFrame (.ref a) X.env) _ _ _
    refine Sky.land Zc.steady frA hf skyA fun h3 fl3 up3 => ?_
    have J3 : Inv X pins σ' H' { s' with heap := h3 } := J.landed nb fl3.1 (up.trans up3) os ag
    obtain ⟨oe3, vs3, he3, hz3, hd3⟩ := fl3.there
    have nfr : a ∉ frs (X.env :: X.outer) := fun hm => by
      obtain ⟨_, o', e', hnf⟩ := (fl3.2.2.1).mem hm
      cases he3.symm.trans e'
      exact hnf _ hd3
    have nL : a ≠ X.env.locals := fun z => nfr (List.mem_filterMap.mpr ⟨X.env, List.mem_cons_self, hf.trans (congrArg some z.symm)⟩)
    have nF : a ∉ X.fs := fun hm => by
      obtain ⟨e, he, q⟩ := List.mem_filterMap.mp hm
      exact nfr (List.mem_filterMap.mpr ⟨e, List.mem_cons_of_mem _ he, q⟩)
    have S3 := J3.suite he3 hd3 na nL nF
    have go : ∀ {hds' : List ExceptHandler} {l' : Hds}, HdsAs X n hds' l' → wAsN X.K i Wout D l' cls d σ' H' → wpAny (model X.prog X.w) X.A (handleBy (.ref a) X.env hds') (SP X pins D) X.xe { s' with heap := h3 } := by
      intro hds' l' hk
      induction hk with
      | nil =>
        intro wout
        apply wpAny_handleBy_nil
        obtain ⟨_, _, _, oe, vs, T, oT, ts', he, hz, hd, h1, hr⟩ := id fl3
        have fin : wpAny (model X.prog X.w) X.A (setFlight (.ref a) X.env.frame) (fun _ s4 => wpAny (model X.prog X.w) X.A (throw (.ref a) : Sem Flow) (SP X pins D) X.xe s4) X.xe { s' with heap := h3 } := by
          rw [hf]
          refine HandSPX.setFlight_upZ fl3 fun h4 hh4 up4 => wpAny_throw (tk _ _ ?_)
          exact ⟨a, B, sI, pins, σ', H', cls, d, rfl, J, nb, (up.trans up3).trans up4, .inr (.inr (hs.symm ▸ hh4)), na, os, ag, wout⟩
        unfold PySem.passOn
        refine wpAny_bind (wpAny_field he hd h1 ?_)
        rw [if_neg (show ¬ ((Value.ref T == Value.none) = true) by simp)]
        first
          | exact wpAny_bind (wpAny_pure (wpAny_bind fin))
          | exact wpAny_bind fin
      | @cons x c ts b₀ suite np pos' hds2 l2 hc hsu r ih =>
        rintro ⟨b, hb1, hyes, hno⟩
        refine wpAny_handleBy_cons (codeAny_handlers_test ?_) (by intro q; cases q)
        have LT : PySem.W.Looks (model X.prog X.w) h3 (typeOf (.ref a)) cls := fun A Q E s k q => wpAny_typeOf_ref (k _ _ he3) (by rw [hz3.1]; exact q)
        have LM := PySem.W.exm_one (M := model X.prog X.w) (J3.kIn) LT hb1
        have named : ∀ {Q : Value → Shared → Prop} {E : Value → Shared → Prop}, Q c { s' with heap := h3 } → wpAny (model X.prog X.w) (X.A.mark (some (.ref a))) (eval (.Name x np) X.env) Q E { s' with heap := h3 } := fun {Q E} q => by
          obtain ⟨hg, hdbg, hm | ⟨hm, hv, hnn⟩⟩ := hc
          · exact ld_glob (X := X.suite a ((a, oe3) :: (X.pn ++ pins))) S3 hg hm q hdbg
          · exact ld_blt (X := X.suite a ((a, oe3) :: (X.pn ++ pins))) S3 hg hm hv q hnn hdbg
        refine named (LM.here ?_)
        cases b with
        | false =>
          show wpAny _ X.A (handleBy (.ref a) X.env hds2) _ _ _
          exact ih (hno rfl)
        | true =>
          refine codeAny_handlers_suite_as (HandSPX.lands_againZ fl3 fun h4 fl4 up4 => ?_)
          have J4 : Inv X pins σ' H' { s' with heap := h4 } := J.landed nb fl4.1 ((up.trans up3).trans up4) os ag
          obtain ⟨oe4, vs4, he4, hz4, hd4⟩ := fl4.there
          have S4 := J4.suite he4 hd4 na nL nF
          refine store_ok (X := X.suite a ((a, oe4) :: (X.pn ++ pins))) (v := .ref a) S4 hN hi hloc rfl (fun s5 S5 => ?_) (.inr hln)
          refine wpAny_mono ((hsu a oe4 cls d (X.pn ++ pins) hz4 ⟨_, hd4⟩).run [] s5 _ H' _ S5 (hyes rfl a na)) (fun f s6 hsp => ?_) (fun _ _ z => False.elim z)
          have gone : ∀ {σ6 : L2.St} {H6 : Hp} {Q : Shared → Prop}, Inv (X.suite a ((a, oe4) :: (X.pn ++ pins))) [] σ6 H6 s6 → (∀ s7, Inv X pins (σ6.set i none) H6 s7 → Q s7) →
              wpAny (model X.prog X.w) X.A (do bindName X.env n .none; unbindBehindTheSuite X.env n pos') (fun _ s7 => Q s7) X.xe s6 := fun {σ6 H6 Q} S6 hq => gone_ok (S6.unsuite ok) hN hi hln hq
          cases f with
          | ret u => obtain ⟨v6, σ6, H6, S6, r6, q6⟩ := hsp; exact gone S6 fun s7 J7 => ⟨_, _, _, J7, r6, q6⟩
          | next => obtain ⟨σ6, H6, S6, q6⟩ := hsp; exact gone S6 fun s7 J7 => ⟨_, _, J7, q6⟩
          | brk => obtain ⟨σ6, H6, S6, q6⟩ := hsp; exact gone S6 fun s7 J7 => ⟨_, _, J7, q6⟩
          | cont => obtain ⟨σ6, H6, S6, q6⟩ := hsp; exact gone S6 fun s7 J7 => ⟨_, _, J7, q6⟩
    exact go hh (wish J.len)
end
end FS
set_option maxHeartbeats 4000000
/-! repr of data where no repr is under way; defs that are told so -/
namespace FS
open PySem PySem.Spec PyProof.Rows L2
def rRepr (K : PySem.W.Frag) : List V → Hp → VK → Prop := fun xs H Q => match xs with
  | [x] => ∃ d : PyData, ((Dp K H x d ∧ d.hasDict = false) ∨ ∃ a, x = .ref a ∧ H a = some (.dK []) ∧ d = .dict []) ∧ d.showable = true ∧ d.depth ≤ 10 ∧ ((∀ i, d ≠ .int i) → d.shown.length ≤ sizeLine) ∧ Q (.str d.shown) H
  | _ => False
section
variable {X : Cx} {k : Nat}
theorem call_repr (hg : X.A.guards = some []) (hu : X.A.units + 64 < cLine) : CallR X (.builtin "repr") (rRepr X.K) := by
  intro pins s σ H xs us Q I r h
  match xs, h with
  | [x], ⟨d, hd, hs, hdp, hz, q⟩ =>
    cases r with
    | @cons _ u _ ur rx rr =>
      cases rr
      have fin : ∀ h' (t : Tok) tk, (∀ b o, s.heap.get? b = some o → h'.get? b = some o) → EP X pins σ Q (.str d.shown t) { s with heap := h', toks := tk } :=
        fun h' t tk hk => ⟨.str d.shown, H, I.kept (h' := h') (t' := tk) hk, ⟨t, rfl⟩, q⟩
      have viaRef : ∀ (a : Addr), u = .ref a → (∃ as, Reads s.heap (.ref a) d as ∧ (d.hasDict = true → sysModules ∉ as)) → wpAny (model X.prog X.w) X.A (call (.builtin "repr") [u]) (EP X pins σ Q) X.xe s := by
        rintro a rfl ⟨as, hr, hsm⟩
        exact repr_of_reads' hr hs hsm hg (by omega) (fun _ _ e => e) (fun h' t tk hk => fin h' t tk hk) (hz (by rintro i rfl; cases hr))
      rcases hd with ⟨hd, hno⟩ | ⟨a, rfl, ha, rfl⟩
      · have nod : ∀ as : List Addr, d.hasDict = true → sysModules ∉ as := fun as z => by rw [hno] at z; cases z
        cases hd with
        | non => cases rx; simp only [PyData.shown] at fin; exact P.repr_of_none (fin s.heap _ _ fun _ _ e => e)
        | bl b => cases rx; simp only [PyData.shown] at fin; exact P.repr_of_bool (fin s.heap _ _ fun _ _ e => e)
        | int i =>
          obtain ⟨t, rfl⟩ := rx
          simp only [PyData.shown] at fin
          exact P.repr_of_int (of_decide_eq_true (by simpa only [PyData.showable] using hs)) (fin s.heap _ _ fun _ _ e => e)
        | str y =>
          obtain ⟨t, rfl⟩ := rx
          have hz' := hz (fun i z => nomatch z)
          simp only [PyData.shown] at fin hz'
          exact P.repr_of_str (fin s.heap _ _ fun _ _ e => e) hz'
        | @lst a ys ds h1 h2 =>
          cases rx
          obtain ⟨as, hr⟩ := Dp.reads I _ _ _ (.lst h1 h2) rfl
          exact viaRef a rfl ⟨as, hr, nod as⟩
        | @tup a ys ds h1 h2 =>
          cases rx
          obtain ⟨as, hr⟩ := Dp.reads I _ _ _ (.tup h1 h2) rfl
          exact viaRef a rfl ⟨as, hr, nod as⟩
      · cases rx
        obtain ⟨_, hsys, vs, hkv, o, es, ep, ho, hx, hda, hes, hpr, _⟩ := (show ObjOk X.prog X.w H s.heap a (.dK []) from I.hok a _ ha)
        cases hkv
        have e0 : es.toList = [] := by
          cases e : es.toList with
          | nil => rfl
          | cons a l => rw [e] at hpr; cases hpr
        refine viaRef a rfl ⟨_, Reads.dict (kvs := []) ho hx.1 hda (by rw [e0]; exact .nil) (by rw [e0]; exact .nil), fun _ z => ?_⟩
        have z' : sysModules = a := by simpa using z
        rw [z'] at hsys
        simp at hsys
/-! ### defs whose promise is told only where no repr is under way -/
structure FnG (P : Program) (w : World) (K : PySem.W.Frag) (mg : Str → Option Value) (base : Heap) (CX : CXT) (k : Nat) (f : Addr) (fd : FuncData) (ps : List Str) (sp : Sp) : Prop where
  len : ∀ vs H Q E, sp vs H Q E → vs.length = ps.length
  run : ∀ (A : Around) (outer : List Env) (s : Shared) (H : Hp) (args : Args) (us : List Value) (vs : List V) (Q : VK) (E : XK), A.guards = some [] → Room k A → Env0 P w K mg base A outer s H → BindsTo s fd args (ps.zip us) → Vals vs us →
    sp vs H Q E → codeAny (model P w) A (.call (.ref f) args) (CR CX outer P w H s Q E) s
theorem deeper_guards (A : Around) (env : Env) : (A.deeper env).guards = A.guards := rfl
theorem okG {P : Program} {w : World} {K : PySem.W.Frag} {mg : Str → Option Value} {base : Heap} {x qual : Str} {st : Stmt} {f : Addr} {fd : FuncData} {N ps : List Str} {k : Nat} {sp : Sp} (F : Fun K x qual st f fd) (S : FnScope N ps (defScope st))
    (len : ∀ vs H Q E, sp vs H Q E → vs.length = ps.length)
    (hbody : ∀ (cdv : Value) (A : Around) (outer : List Env) (s : Shared) (H : Hp) (vs : List V) (Q : VK) (E : XK), A.guards = some [] → Room k (A.deeper (envOfC qual (defScope st) s.heap.objs.size f cdv)) → PySem.W.codeIn K cdv qual = true → sp vs H Q E →
      ∃ t, PSs (cxOf CX0 P w K mg base N qual (defScope st) f cdv A outer s H E).nox (defBody st) t ∧ t { nx := fun _ H' => Q .non H', rt := Q } (L2.start N vs) H) : FnG P w K mg base CX0 (k + 1) f fd ps sp := by
  obtain ⟨oc, od, kV, doc, pm, an, cdv, ct, osl, rfl, lk, hcd⟩ := F.ex
  refine ⟨len, fun A outer s H args us vs Q E hg hr e0 hb r hsp => ?_⟩
  refine LamX.run_ofS lk hcd S hr e0 hb r (len _ _ _ _ hsp) fun hr' => ?_
  obtain ⟨t, ht, q⟩ := hbody cdv A outer s H vs Q E hg hr' hcd hsp
  exact ⟨t, ht.nox, q⟩
theorem pe_callG {CX : CXT} {f : Addr} {fd : FuncData} {ps : List Str} {sp : Sp} {E : XK} {x : Str} {p pos : Pos} {e : Expr} {es : List Expr} {t : TA} (F : FnG X.prog X.w X.K X.mg X.base CX k f fd ps sp) (hgd : X.A.guards = some []) (hr : Room k X.A) (hg : Gl X x)
    (hm : X.mg x = some (.ref f)) (hk : PySem.W.keepIn X.K (.ref f) = true) (hb : Binds X.K fd ps []) (hx : Passes CX X E)
    (ha : PA X (e :: es) t) (hdb : (x == ("__debug__" : Str)) = false := by decide) (he : starEach (e :: es) X.env = (false, eval e X.env) :: starEach es X.env := by rfl) (hpl : (backTo pos (starEach es X.env)).any (·.1) = false := by rfl) :
    PE X (.Call (.Name x p) (e :: es) [] pos) (tCall sp [] E t) := by
  constructor
  intro pins s σ H Q I h
  refine wpAny_Call_Name_kw (ld_glob I hg hm ?_ hdb)
  refine PySem.W.callWith_K (h₀ := X.base) I.ok.mod.kin hk (thn (ha.run pos pins s σ H _ I h) fun us s1 ⟨vs, H1, I1, r, q⟩ => ⟨I1.kIn, ?_⟩) he hpl
  have q' : sp vs H1 Q E := by rw [← List.append_nil vs]; exact q
  have hl : us.length = ps.length := r.length.symm.trans (F.len _ _ _ _ q')
  have hb' := hb s1 us I1.kIn (by rw [List.append_nil]; exact hl)
  rw [List.append_nil] at hb'
  refine wpAny_call (codeAny_mono (F.run X.A X.stack s1 H1 ⟨us, []⟩ us vs Q E hgd hr I1.env0 hb' r q') fun rs s' hq => ?_)
  match rs, hq with
  | .error e, hq => exact hx pins σ H1 s1 e s' I1 hq
  | .ok (.ret u), hq => exact I1.after hq
  | .ok .next, hq => exact False.elim hq
  | .ok .brk, hq => exact False.elim hq
  | .ok .cont, hq => exact False.elim hq
end
end FS
set_option maxHeartbeats 4000000
/-! the end of a law whose def is told only where no repr is under way (the law is called where none is) -/
namespace FS
open PySem PySem.Spec PyProof.Rows L2
open LamX (TabB)
section
variable {P : Program} {w : World} {K : PySem.W.Frag} {mg mb : Str → Option Value} {k : Nat} {fa a : Addr} {cs : List (Addr × Addr)} {fd : FuncData} {x : Str} {sp : Sp} {s₁ : Shared} {vs : List Value} {ns : List Int}
/-- from what is tracked at the law's call -/
theorem end_from (KX : K.In s₁.heap) (hns : s₁.heap.Ns mainGlobals mg) (hb : s₁.heap.Ns builtinsNs mb) (hbb : ∀ x : Str, x ≠ "__name__" → mb x = bootBuiltins x) (hlim : s₁.heap.NoLimit) (hg : s₁.gens = #[])
    (hT : ∀ p ∈ cs, s₁.heap.get? p.2 = some { cls := .none, data := .fields #[] }) (nT : ∀ p ∈ cs, K.lookup p.2 = none) (C : ∀ p ∈ cs, PySem.W.CodeHd s₁.heap p.1 p.2)
    (hbm : ∃ (bm : Addr) (ob : Obj), mg "__builtins__" = some (.ref bm) ∧ bm ≠ builtinsNs ∧ s₁.heap.get? bm = some ob ∧ ob.cls = .type "module" ∧ ob.dict = some builtinsNs ∧ ob.data = .plain)
    (ha : s₁.heap.get? a = some { cls := .type "list", data := .seq vs.toArray }) (hr : Room k callerA)
    (F : ∀ base : Heap, K.In base → base.Ns mainGlobals mg → (∀ p ∈ cs, TabB base mg p.1 p.2) → FnG P w K mg base CX0 k fa fd [x] sp) (hbind : ∀ (s : Shared) (u : Value), BindsTo s fd ⟨[u], []⟩ [(x, u)])
    (H : Hp) (hH : ∀ p ∈ cs, H p.2 = some (.tbl #[])) (hO : ∀ b, H b = none ∨ b ∈ cs.map (·.2) ∨ ∃ o xs, H b = some (.frz o (.lst xs))) (hok : HOk P w H s₁.heap) (hA : ∀ b, H b ≠ none → b = a ∨ b ∈ cs.map (·.2)) (hK : H a ≠ none → K.lookup a = none)
    (hsp : sp [.ref a] H (fun v _ => v = .bl true) fun _ _ _ => False) :
    codeAny (model P w) callerA (.call (.ref fa) ⟨[.ref a], []⟩) (fun r s' => r = .ok (.ret (.bool true)) ∧ OldK s₁.heap s'.heap ∧ s'.os = s₁.os ∧ AllBare s'.gens) s₁ := by
  have isT : ∀ b : Addr, b ∈ cs.map (·.2) → s₁.heap.get? b = some { cls := .none, data := .fields #[] } := fun b hb => by
    obtain ⟨p, hp, rfl⟩ := List.mem_map.mp hb
    exact hT p hp
  have lay : ∀ {b : Addr} {o : Obj}, s₁.heap.get? b = some o → H b = none → (hidT s₁.heap H).get? b = some o := fun e n => hidT_get e n
  -- what is neither a list's nor an empty record's object is not tracked
  have out : ∀ {b : Addr} {o : Obj}, s₁.heap.get? b = some o → (∀ vs n, o.data ≠ .seq vs n) → o.data ≠ .fields #[] → H b = none := fun {b o} e h1 h2 => by
    by_cases q : H b = none
    · exact q
    · rcases hA b q with rfl | e'
      · cases ha.symm.trans e; exact absurd rfl (h1 _ _)
      · cases (isT b e').symm.trans e; exact absurd rfl h2
  have outD : ∀ {b : Addr} {o : Obj} {es : Array DictEntry} {ep : Nat}, s₁.heap.get? b = some o → o.data = .dict es ep → H b = none := fun {b o es ep} e d =>
    out e (fun vs n z => nomatch d.symm.trans z) (fun z => nomatch d.symm.trans z)
  have nsK : ∀ {b : Addr} {m : Str → Option Value}, s₁.heap.Ns b m → (hidT s₁.heap H).Ns b m := fun {b m} ⟨o, es, ep, e, d, r⟩ => ⟨o, es, ep, lay e (outD e d), d, r⟩
  have KB : K.In (hidT s₁.heap H) := fun b o e => lay (KX b o e) (by
    by_cases q : H b = none
    · exact q
    · rcases hA b q with rfl | e'
      · rw [hK q] at e; cases e
      · obtain ⟨p, hp, rfl⟩ := List.mem_map.mp e'
        rw [nT p hp] at e; cases e)
  have hM : L2.Mod K mg (hidT s₁.heap H) := ⟨KB, nsK hns, ⟨mb, nsK hb, hbb⟩, let ⟨mc, h1, h2⟩ := hlim; ⟨mc, nsK h1, h2⟩⟩
  have TB : ∀ p ∈ cs, TabB (hidT s₁.heap H) mg p.1 p.2 := fun p hp => by
    have hTp := hT p hp
    constructor
    · obtain ⟨o, us, file, tf, flags, tg, inF, text, tt, e1, r1, r2, r3, r4, r5, r6, r7, r8, hne⟩ := C p hp
      refine ⟨o, us, file, tf, flags, tg, inF, text, tt, lay e1 (out e1 (fun vs n z => nomatch r2.symm.trans z) fun z => ?_), r1, r2, r3, r4, r5, r6, r7, r8, hne⟩
      cases r2.symm.trans z
      simp at r3
    · obtain ⟨bm, ob, b1, b2, b3, b4, b5, b6⟩ := hbm
      refine ⟨bm, ob, b1, b2, fun q => ?_, fun q => ?_, lay b3 (out b3 (fun vs n z => nomatch b6.symm.trans z) (fun z => nomatch b6.symm.trans z)), b4, b5, b6⟩
      · obtain ⟨o, es, ep, e, hd, _⟩ := hns
        rw [q] at b3
        cases b3.symm.trans e
        cases b6.symm.trans hd
      · rw [q] at b3
        cases b3.symm.trans hTp
        cases b6
    · intro z
      obtain ⟨o, es, ep, e, hd, _⟩ := hns
      rw [z] at e
      cases hTp.symm.trans e
      cases hd
  have e0 : Env0 P w K mg (hidT s₁.heap H) callerA [] s₁ H := ⟨rfl, hM, fun b o e => of_hidT e, Nat.le_of_eq (hidT_size _ _), trivial, fun b hb => absurd (show b ∈ ([] : List Addr) from hb) (by simp), hok, .of_eq hg⟩
  refine codeAny_mono ((F _ KB (nsK hns) TB).run callerA [] s₁ H ⟨[.ref a], []⟩ [.ref a] [.ref a] _ _ rfl hr e0 (hbind s₁ (.ref a)) (.cons rfl .nil) hsp) fun r s' h => ?_
  match r, h with
  | .error _, h => exact h.elim
  | .ok .next, h => exact False.elim h
  | .ok .brk, h => exact False.elim h
  | .ok .cont, h => exact False.elim h
  | .ok (.ret u), ⟨v, H', os, bare, un, hok', rv, q⟩ =>
    have q' : v = .bl true := q
    subst q'
    obtain rfl : u = Value.bool true := rv
    have keepO : ∀ b o, b ∉ cs.map (·.2) → s₁.heap.get? b = some o → s'.heap.get? b = some o := fun b o nb e => by
      rcases hO b with z | z | ⟨ob, xs, z⟩
      · exact un.keep b o e z (by intro y; exact absurd (show b ∈ ([] : List Addr) from y) (by simp)) (by simp)
      · exact absurd z nb
      · obtain ⟨e1, _⟩ := hok b _ z
        obtain ⟨e2, _⟩ := hok' b _ (un.frzs b ob _ z)
        cases e.symm.trans e1
        exact e2
    have grown : ∀ p ∈ cs, ∃ more : Array Value, s'.heap.get? p.2 = some { cls := .none, data := .fields more } := fun p hp => by
      obtain ⟨more, z⟩ := un.tbls p.2 #[] (hH p hp)
      exact ⟨_, hok' p.2 _ z⟩
    refine ⟨rfl, ⟨fun b o e => ?_, fun b o e => ?_⟩, os, bare⟩
    · by_cases hb : b ∈ cs.map (·.2)
      · obtain ⟨p, hp, rfl⟩ := List.mem_map.mp hb
        obtain ⟨more, hm⟩ := grown p hp
        cases (hT p hp).symm.trans e
        exact .inr (.inl ⟨((C p hp).tab (hT p hp)).isCodeTable, rfl, #[], more, rfl, by rw [Array.empty_append]; exact hm⟩)
      · exact .inl (keepO b o hb e)
    · by_cases hb : b ∈ cs.map (·.2)
      · obtain ⟨p, hp, rfl⟩ := List.mem_map.mp hb
        obtain ⟨more, hm⟩ := grown p hp
        exact ⟨_, hm⟩
      · exact ⟨o, keepO b o hb e⟩
theorem end_call (KX : K.In s₁.heap) (hns : s₁.heap.Ns mainGlobals mg) (hb : s₁.heap.Ns builtinsNs mb) (hbb : ∀ x : Str, x ≠ "__name__" → mb x = bootBuiltins x) (hlim : s₁.heap.NoLimit) (hg : s₁.gens = #[])
    (hT : ∀ p ∈ cs, s₁.heap.get? p.2 = some { cls := .none, data := .fields #[] }) (nT : ∀ p ∈ cs, K.lookup p.2 = none) (C : ∀ p ∈ cs, PySem.W.CodeHd s₁.heap p.1 p.2)
    (hbm : ∃ (bm : Addr) (ob : Obj), mg "__builtins__" = some (.ref bm) ∧ bm ≠ builtinsNs ∧ s₁.heap.get? bm = some ob ∧ ob.cls = .type "module" ∧ ob.dict = some builtinsNs ∧ ob.data = .plain)
    (ha : s₁.heap.get? a = some { cls := .type "list", data := .seq vs.toArray }) (hi : IntsAre vs ns) (hl : ns.length ≤ sizeLine) (hr : Room k callerA)
    (F : ∀ base : Heap, K.In base → base.Ns mainGlobals mg → (∀ p ∈ cs, TabB base mg p.1 p.2) → FnG P w K mg base CX0 k fa fd [x] sp) (hbind : ∀ (s : Shared) (u : Value), BindsTo s fd ⟨[u], []⟩ [(x, u)])
    (hsp : ∀ H : Hp, (∀ p ∈ cs, H p.2 = some (.tbl #[])) → SqL K H a (ns.map V.int) → sp [.ref a] H (fun v _ => v = .bl true) fun _ _ _ => False) :
    codeAny (model P w) callerA (.call (.ref fa) ⟨[.ref a], []⟩) (fun r s' => r = .ok (.ret (.bool true)) ∧ OldK s₁.heap s'.heap ∧ s'.os = s₁.os ∧ AllBare s'.gens) s₁ := by
  have rv := vals_ints hi
  have isT : ∀ b : Addr, b ∈ cs.map (·.2) → s₁.heap.get? b = some { cls := .none, data := .fields #[] } := fun b hb => by
    obtain ⟨p, hp, rfl⟩ := List.mem_map.mp hb
    exact hT p hp
  have aT : a ∉ cs.map (·.2) := fun z => by cases (isT a z).symm.trans ha
  have inT : ∀ p ∈ cs, p.2 ∈ cs.map (·.2) := fun p hp => List.mem_map.mpr ⟨p, hp, rfl⟩
  let HT : Hp := fun b => if b ∈ cs.map (·.2) then some (.tbl #[]) else none
  have HTin : ∀ b, b ∈ cs.map (·.2) → HT b = some (.tbl #[]) := fun b hb => if_pos hb
  have HTout : ∀ b, b ∉ cs.map (·.2) → HT b = none := fun b hb => if_neg hb
  have HTok : ∀ H2 : Hp, ∀ b u, HT b = some u → ObjOk P w H2 s₁.heap b u := fun H2 b u z => by
    by_cases hb : b ∈ cs.map (·.2)
    · cases (HTin b hb).symm.trans z
      exact isT b hb
    · cases (HTout b hb).symm.trans z
  by_cases hk : K.lookup a = none
  · let fz : HO := .frz { cls := .type "list", data := .seq vs.toArray } (.lst (ns.map V.int))
    have at_ : ∀ b, b ≠ a → upd HT a fz b = HT b := fun b hb => upd_ne hb
    refine end_from KX hns hb hbb hlim hg hT nT C hbm ha hr F hbind (upd HT a fz) (fun p hp => (at_ _ fun z => aT (z ▸ inT p hp)).trans (HTin _ (inT p hp))) (fun b => ?_) (fun b u z => ?_) (fun b z => ?_) (fun _ => hk) (hsp _ (fun p hp => (at_ _ fun z => aT (z ▸ inT p hp)).trans (HTin _ (inT p hp))) (.inl (.inr ⟨_, upd_same⟩)))
    · by_cases e : b = a
      · subst e; exact .inr (.inr ⟨_, _, upd_same⟩)
      · by_cases hb2 : b ∈ cs.map (·.2)
        · exact .inr (.inl hb2)
        · exact .inl ((at_ b e).trans (HTout b hb2))
    · by_cases e : b = a
      · subst e
        rw [upd_same] at z
        cases z
        exact ⟨ha, by rw [List.length_map]; exact hl, vs, _, rv, ha⟩
      · exact HTok _ b u ((at_ b e).symm.trans z)
    · by_cases e : b = a
      · exact .inl e
      · by_cases hb2 : b ∈ cs.map (·.2)
        · exact .inr hb2
        · exact absurd ((at_ b e).trans (HTout b hb2)) z
  · obtain ⟨o, ho⟩ := Option.ne_none_iff_exists'.mp hk
    cases (KX a o ho).symm.trans ha
    refine end_from KX hns hb hbb hlim hg hT nT C hbm ha hr F hbind HT (fun p hp => HTin _ (inT p hp)) (fun b => ?_) (HTok HT) (fun b z => ?_) (fun z => absurd (HTout a aT) z)
      (hsp HT (fun p hp => HTin _ (inT p hp)) (.inr ⟨_, vs.toArray, _, ho, rfl, rfl, rfl, by rw [List.size_toArray, hi.length]; exact hl, by simpa using rv⟩))
    · by_cases hb2 : b ∈ cs.map (·.2)
      · exact .inr (.inl hb2)
      · exact .inl (HTout b hb2)
    · by_cases hb2 : b ∈ cs.map (·.2)
      · exact .inr hb2
      · exact absurd (HTout b hb2) z
end
/-- what is known of the law's promise at the head's heap h -/
def LawG (l : PySem.W.OpenLaw) (w : World) (K : PySem.W.Frag) (k n : Nat) (x : Str) (mg : Str → Option Value) (fa : Addr) (h : Heap) : Prop :=
  ∃ (fd : FuncData) (cs : List (Addr × Addr)) (sp : Sp), (∀ p ∈ cs, h.get? p.2 = some { cls := .none, data := .fields #[] }) ∧ (∀ p ∈ cs, K.lookup p.2 = none) ∧ (∀ p ∈ cs, PySem.W.CodeHd h p.1 p.2) ∧ (∀ (s : Shared) (u : Value), BindsTo s fd ⟨[u], []⟩ [(x, u)]) ∧
    (∀ (H : Hp) (a : Addr) (ns : List Int), ns.length ≤ n → (∀ z ∈ ns, Builtin.Int.intBits z ≤ 1048576) → (∀ p ∈ cs, H p.2 = some (.tbl #[])) → SqL K H a (ns.map V.int) → sp [.ref a] H (fun v _ => v = .bl true) fun _ _ _ => False) ∧
    ∀ base : Heap, K.In base → base.Ns mainGlobals mg → (∀ p ∈ cs, TabB base mg p.1 p.2) → FnG l.prog w K mg base CX0 k fa fd [x] sp
theorem walk_G {l : PySem.W.OpenLaw} {n k : Nat} {q : Program} {loose : List Str} {XP : (Str → Option Value) → Heap → Prop} {YP : World → Heap → Prop} {d : DefRec} {K : Params → PySem.W.Frag} {x : Str}
    (hn : l.most = some n) (hn2 : n ≤ sizeLine) (hdf : d.params.defaults = []) (hr : Room k callerA) (hY : ∀ (w : World) (h : Heap), YP w h → (K w.params).In h)
    (F : ∀ (w : World) (mg : Str → Option Value) (fa : Addr) (h : Heap), YP w h → (K w.params).In h → h.Ns mainGlobals mg → mg d.name = some (.ref fa) → LawG l w (K w.params) k n x mg fa h) :
    PySem.W.WalkO q loose XP YP l.row.toRowW d [] (fun f vs => PySem.call f vs) := by
  refine Att.attach_callB hn hdf fun w s₀ s₁ mg mb fa o pm cd doc a vs ns G Y ho hd hcd hmg hobj hints hlen hbits hg => ?_
  have KX := hY w _ Y
  obtain ⟨fd, cs, sp, hT, nT, C, hb, hsp, hF⟩ := F w mg fa _ Y KX G.T.g hmg
  exact end_call KX G.T.g G.T.b G.T.builtins G.T.nolimit hg hT nT C G.T.bmain hobj hints (Nat.le_trans hlen hn2) hr hF hb fun H hH hS => hsp H a ns hlen hbits hH hS
end FS
set_option maxHeartbeats 4000000
/-! own exceptions whose __init__ keeps one thing; the head's facts of them; the end by a Hook -/
namespace FS
open PySem PySem.Spec PyProof.Rows L2
open He (ga ma eqO eqO_ok ba)
def oexB (K : PySem.W.Frag) (C : Addr) : Bool := match K.lookup C with
  | some ⟨.type "type", _, .cls cd, sl⟩ => (match cd.mro, sl.toList with
    | .ref C' :: bm, [_, _, _, _, some (.builtin n), _] => C' == C && n == "ValueError.__new__" && !cd.hasDel && cd.hasDict && PySem.HandSPX.refsVE bm
    | _, _ => false)
  | _ => false
theorem oexB_ok {K : PySem.W.Frag} {C : Addr} (q : oexB K C = true) : ∃ nm qn N bs bm sn sub ab col dd k0 k1 k2 k3 k5, K.lookup C = some (PySem.excClassObj nm qn C N bs bm true sn sub ab col dd k0 k1 k2 k3 k5 "ValueError.__new__") ∧ PySem.HandSPX.refsVE bm = true := by
  unfold oexB at q
  split at q
  · rename_i dd cd sl ho
    split at q
    · rename_i C' bm k0 k1 k2 k3 n k5 hm hs
      simp only [Bool.and_eq_true, beq_iff_eq, Bool.not_eq_true'] at q
      obtain ⟨⟨⟨⟨rfl, rfl⟩, hdel⟩, hdi⟩, hr⟩ := q
      obtain ⟨nm, bs, mro, ns, qn, hd, sn, sub, ab, col, del⟩ := cd
      dsimp only at hm hdel hdi
      subst hm hdel hdi
      have hsl : sl = #[k0, k1, k2, k3, some (.builtin "ValueError.__new__"), k5] := by
        obtain ⟨l⟩ := sl
        simp only at hs
        rw [hs]
      subst hsl
      exact ⟨nm, qn, ns, bs, bm, sn, sub, ab, col, dd, k0, k1, k2, k3, k5, ho, hr⟩
    · cases q
  · cases q
/-- what is asked of the class x, whose __init__ keeps the field f -/
def excB (K : PySem.W.Frag) (C : Addr) (f : Str) : Bool :=
  oexB K C && (eqO (PySem.W.findIn K (.ref C) "__setattr__") (some (some (.builtin "object.__setattr__"))) && (decide (PySem.W.subIn K (.ref C) (.type "BaseException") = some true) && (decide (PySem.W.typeIn K (.ref C) = some (.type "type")) &&
  (PySem.W.keepIn K (.ref C) && (eqO (PySem.W.findIn K (.ref C) "__init__") (some (some (.ref (ma K C "__init__")))) && (decide (PySem.W.typeIn K (.ref (ma K C "__init__")) = some (.type "function")) && (eqO (PySem.W.findIn K (.ref C) f) (some none) &&
  (xfB K C && (eqO (PySem.W.findIn K (.ref C) "__class__") (some (some (.builtin "object.__class__"))) && (eqO (PySem.W.specialIn K (.builtin "object.__class__") "__get__") (some (some (.builtin "getset_descriptor.__get__"))) &&
  (decide (PySem.W.takesIn K (.builtin "object.__class__") = some true) && decide (PySem.W.mroIn K C (.type "object") = some true))))))))))))
structure ExT (K : PySem.W.Frag) (C : Addr) (f : Str) : Prop where
  o : OexC K C
  iC : PySem.W.findIn K (.ref C) "__init__" = some (some (.ref (ma K C "__init__")))
  tI : PySem.W.typeIn K (.ref (ma K C "__init__")) = some (.type "function")
  no : PySem.W.findIn K (.ref C) f = some none
  xf : XfC K C
  ex : ExcC K C
theorem excB_ok {K : PySem.W.Frag} {C : Addr} {f : Str} (q : excB K C f = true) : ExT K C f := by
  obtain ⟨h1, q⟩ := ba q
  obtain ⟨h2, q⟩ := ba q
  obtain ⟨h3, q⟩ := ba q
  obtain ⟨h4, q⟩ := ba q
  obtain ⟨h5, q⟩ := ba q
  obtain ⟨h6, q⟩ := ba q
  obtain ⟨h7, q⟩ := ba q
  obtain ⟨h8, q⟩ := ba q
  obtain ⟨h9, q⟩ := ba q
  obtain ⟨h10, q⟩ := ba q
  obtain ⟨h11, q⟩ := ba q
  obtain ⟨h12, h13⟩ := ba q
  have x := xfB_ok h9
  have h3' := of_decide_eq_true h3
  exact ⟨⟨oexB_ok h1, eqO_ok h2, h3', of_decide_eq_true h4, h5⟩, eqO_ok h6, of_decide_eq_true h7, eqO_ok h8, x, ⟨x.ga, x.gg, h3', x.hdC, eqO_ok h10, eqO_ok h11, of_decide_eq_true h12, of_decide_eq_true h13⟩⟩
/-- self.f = e, f the class's only field: from nothing to it -/
theorem init_heap {H : Hp} {a d C : Addr} {f : Str} {v : V} (ha : H a = none) (hd : d ≠ a) :
    upd (del (upd (upd (upd H a (exo a C none)) d (exd d [(f, v)])) a (exo a C (some d))) a) d (.xd [(f, v)]) = upd H d (.xd [(f, v)]) := by
  funext b
  by_cases h1 : b = d
  · rw [h1, upd_same, upd_same]
  · rw [upd_ne h1, upd_ne h1]
    by_cases h2 : b = a
    · rw [h2, del_same, ha]
    · rw [del_ne h2, upd_ne h2, upd_ne h1, upd_ne h2]
/-- the promise of such an __init__ -/
def spInit (C : Addr) (f : Str) : Sp := fun vs H Q _ => ∃ (a : Addr) (v : V), vs = [.ref a, v] ∧ H a = some (exo a C none) ∧ ∀ d, H d = none → d ≠ a → Q .non (upd (upd H d (exd d [(f, v)])) a (exo a C (some d)))
section
variable {X : Cx} {y : Str} {i : Nat} {p p3 pos pos2 : Pos} {fd : FuncData} {x f : Str} {C : Addr} {W : WX}
/-- raise x(name), the name in slot i -/
def tRaise1 (C : Addr) (f : Str) (W : WX) (i : Nat) : TS := fun _ σ H => ∃ v, σ[i]? = some (some v) ∧ ∀ d, H d = none → W (.ref C) (some d) σ (upd H d (.xd [(f, v)]))
theorem ps_raise1 (T : ExT X.K C f) (F1 : FnOk X.prog X.w X.K X.mg X.base CX0 1 (ma X.K C "__init__") fd ["self", f] (spInit C f)) (hr : Room 2 X.A) (hb : Binds X.K fd ["self", f] []) (hc : X.calm = true) (tk : Takes X W) (hg : Gl X x) (hm : X.mg x = some (.ref C)) (he : PE X (.Name y p3) (tVar i))
    (hdb : (x == ("__debug__" : Str)) = false := by decide)   :
    PS X (.Raise (some (.Call (.Name x p) [.Name y p3] [] pos)) none pos2) (tRaise1 C f W i) := by
  have P1 := pmk_oex (p := p) (pos := pos) (dvs := []) T.o T.iC T.tI F1 hr hb .nil (fun _ _ _ _ _ _ _ z => z.elim) hg hm (pa_cons he pa_nil) hdb rfl rfl
  constructor
  intro pins s σ H D I h
  obtain ⟨v, hv, h⟩ := h
  refine (ps_raise (pos := pos2) hc tk P1).run pins s σ H D I ⟨v, hv, by show 1 ≤ 1000; decide, fun a na => ⟨a, v, rfl, upd_same, fun d nd hda => ⟨rfl, d, [(f, v)], upd_same, ?_, ?_, ?_⟩⟩⟩
  · rw [upd_ne hda, upd_same]
  · rw [upd_ne hda] at nd
    exact nd
  · rw [init_heap na hda]
    rw [upd_ne hda] at nd
    exact h d nd
end
/-- the end by a Hook -/
theorem walk_GE {l : PySem.W.OpenLaw} {n k : Nat} {q : Program} {loose : List Str} {XP : (Str → Option Value) → Heap → Prop} {YP : World → Heap → Prop} {d : DefRec} {x : Str} (hn : l.most = some n) (hn2 : n ≤ sizeLine) (hdf : d.params.defaults = []) (hr : Room k callerA)
    (F : ∀ (w : World) (mg : Str → Option Value) (fa : Addr) (h : Heap), YP w h → h.Ns mainGlobals mg → mg d.name = some (.ref fa) → ∃ K : PySem.W.Frag, K.In h ∧ LawG l w K k n x mg fa h) :
    PySem.W.WalkO q loose XP YP l.row.toRowW d [] (fun f vs => PySem.call f vs) := by
  refine Att.attach_callB hn hdf fun w s₀ s₁ mg mb fa o pm cd doc a vs ns G Y ho hd hcd hmg hobj hints hlen hbits hg => ?_
  obtain ⟨K, KX, fd, cs, sp, hT, nT, C, hb, hsp, hF⟩ := F w mg fa _ Y G.T.g hmg
  exact end_call KX G.T.g G.T.b G.T.builtins G.T.nolimit hg hT nT C G.T.bmain hobj hints (Nat.le_trans hlen hn2) hr hF hb fun H hH hS => hsp H a ns hlen hbits hH hS
end FS
set_option maxHeartbeats 4000000
/-! lists and tuples that are tracked, read off the heap -/
namespace FS
open PySem PySem.Spec PyProof.Rows L2
def seqO : Option HO → Option (List V)
  | some (.lst xs) => some xs
  | some (.tup xs) => some xs
  | _ => none
/-- xs[i], xs a tracked list or tuple -/
def rIxA : R2 := fun x y H Q => match x, y with
  | .ref p, .int i => (match seqO (H p) with
    | some xs => (match atI xs i with
      | some v => Q v H
      | none => False)
    | none => False)
  | _, _ => False
def rSetA : V → V → V → Hp → (Hp → Prop) → Prop := fun o i v H Q => match o, i with
  | .ref p, .int k => (match H p with
    | some (.lst xs) => (match ixN xs.length k with
      | some j => Q (upd H p (.lst (xs.set j v)))
      | none => False)
    | _ => False)
  | _, _ => False
def gTupA (n : Nat) (t : TGs) : TG := fun v σ H Q => match v with
  | .ref p => (match H p with
    | some (.tup xs) => xs.length = n ∧ t xs σ H Q
    | _ => False)
  | _ => False
def rLenA : List V → Hp → VK → Prop := fun xs H Q => match xs with
  | [.ref p] => (match seqO (H p) with
    | some ys => Q (.int ys.length) H
    | none => False)
  | _ => False
theorem seqO_sq {K : PySem.W.Frag} {H : Hp} {p : Addr} {xs : List V} (h : seqO (H p) = some xs) : (H p = some (.lst xs) ∧ SqL K H p xs) ∨ (H p = some (.tup xs) ∧ SqT K H p xs) := by
  cases e : H p with
  | none => rw [e] at h; cases h
  | some o =>
    rw [e] at h
    cases o with
    | lst ys => cases h; exact .inl ⟨rfl, .inl (.inl e)⟩
    | tup ys => cases h; exact .inr ⟨rfl, .inl (.inl e)⟩
    | _ => cases h
section
variable {X : Cx}
theorem ix_at : IxR X rIxA := by
  intro value slice pins s σ H x y v u Q I rx ry h hs
  unfold rIxA at h
  split at h
  · rename_i p i
    split at h
    · rename_i xs e
      split at h
      · rename_i z ez
        rcases seqO_sq (K := X.K) e with ⟨_, q⟩ | ⟨_, q⟩
        · exact ix_list value slice pins s σ H _ _ v u Q I rx ry ⟨p, xs, i, z, rfl, rfl, q, ez, h⟩ hs
        · exact ix_tup value slice pins s σ H _ _ v u Q I rx ry ⟨p, xs, i, z, rfl, rfl, q, ez, h⟩ hs
      · exact h.elim
    · exact h.elim
  · exact h.elim
theorem set_at : PSet X rSetA := by
  intro pins s σ H o i v ov iv u Q I ro ri rv h
  unfold rSetA at h
  split at h
  · rename_i p k
    split at h
    · rename_i xs e
      split at h
      · rename_i j ej
        exact set_list pins s σ H _ _ v ov iv u Q I ro ri rv ⟨p, xs, k, j, rfl, rfl, e, ej, h⟩
      · exact h.elim
    · exact h.elim
  · exact h.elim
theorem call_lenA : CallR X (.builtin "len") rLenA := by
  intro pins s σ H xs us Q I r h
  unfold rLenA at h
  split at h
  · rename_i p
    split at h
    · rename_i ys e
      exact call_len_seq pins s σ H _ us Q I r ⟨p, ys, rfl, (seqO_sq (K := X.K) e).elim (fun z => .inl z.2) fun z => .inr z.2, h⟩
    · exact h.elim
  · exact h.elim
/-- a, b, .. = t, t a tuple that is tracked -/
theorem pg_tupA {ts : List Expr} {t : TGs} {k n : Nat} {pos : Pos} (hc : X.calm = true) (h : PGs X ts t) (hn : (assignEach ts X.env).length = n := by rfl) (hst : (assignEach ts X.env).findIdx? (·.1) = none := by rfl) : PG X (.Tuple ts k pos) (gTupA n t) := by
  constructor
  intro pins s σ H v u Q I r hw
  unfold gTupA at hw
  split at hw
  · rename_i p
    split at hw
    · rename_i xs e
      exact (pg_tup hc h hn hst).run pins s σ H _ u Q I r ⟨p, xs, rfl, .inl (.inl e), hw.1, hw.2⟩
    · exact hw.elim
  · exact hw.elim
end
theorem at0 {α : Type} {x : α} {l : List α} : atI (x :: l) 0 = some x := by
  show (ixN (l.length + 1) 0).bind _ = _
  unfold ixN
  rw [if_pos (by omega), if_pos (by omega)]
  rfl
theorem at1 {α : Type} {x y : α} {l : List α} : atI (x :: y :: l) 1 = some y := by
  show (ixN (l.length + 1 + 1) 1).bind _ = _
  unfold ixN
  rw [if_pos (by omega), if_pos (by omega)]
  rfl
theorem at2 {α : Type} {x y z : α} {l : List α} : atI (x :: y :: z :: l) 2 = some z := by
  show (ixN (l.length + 1 + 1 + 1) 2).bind _ = _
  unfold ixN
  rw [if_pos (by omega), if_pos (by omega)]
  rfl
theorem ix0 {n : Nat} : ixN (n + 1) 0 = some 0 := by
  unfold ixN
  rw [if_pos (by omega), if_pos (by omega)]
  rfl
theorem ix1 {n : Nat} : ixN (n + 1 + 1) 1 = some 1 := by
  unfold ixN
  rw [if_pos (by omega), if_pos (by omega)]
  rfl
theorem ix2 {n : Nat} : ixN (n + 1 + 1 + 1) 2 = some 2 := by
  unfold ixN
  rw [if_pos (by omega), if_pos (by omega)]
  rfl
/-- all but one object stays as it was -/
def Fr (w : Addr) (H H' : Hp) : Prop := ∀ b o, b ≠ w → H b = some o → H' b = some o
theorem Fr.refl (w : Addr) (H : Hp) : Fr w H H := fun _ _ _ h => h
theorem Fr.trans {w : Addr} {H H1 H2 : Hp} (a : Fr w H H1) (b : Fr w H1 H2) : Fr w H H2 := fun c o n h => b c o n (a c o n h)
theorem Fr.same {w : Addr} {H H' : Hp} (h : Same H H') : Fr w H H' := fun b o _ e => h b o e
theorem Fr.upd {w : Addr} {H : Hp} {o : HO} : Fr w H (upd H w o) := fun b u n e => by rw [upd_ne n]; exact e
theorem same_upd {H : Hp} {p : Addr} {o : HO} (h : H p = none) : Same H (upd H p o) := fun b x e => by
  rw [upd_ne (ne_of_none e h)]
  exact e
theorem Fr.new {w p : Addr} {H : Hp} {o : HO} (h : H p = none) : Fr w H (L2.upd H p o) := .same (same_upd h)
end FS
set_option maxHeartbeats 4000000
/-! isinstance of a caught own error that keeps a field; callees that do not raise here -/
namespace FS
open PySem PySem.Spec PyProof.Rows L2
theorem passF {X : Cx} : Passes (L2.CX X.prog X.w) X (fun _ _ _ => False) := passes_call LamX.takes0 fun _ _ _ _ h => h
/-- isinstance(e, c), e the caught error a of the class D with the dict d -/
def rIsD (K : PySem.W.Frag) (D a : Addr) (cls : Value) (d : Option Addr) : List V → Hp → VK → Prop := fun xs H Q => ∃ (C : Addr) (b : Bool) (dd : Addr) (fs : List (Str × V)), cls = .ref D ∧ d = some dd ∧ H dd = some (.xd fs) ∧ xs = [.ref a, .ref C] ∧ PySem.W.kitOne K (.ref D) (.ref C) = some b ∧ Q (.bl b) H
theorem call_isD {X : Cx} {a D : Addr} {oe : Obj} {cls : Value} {d : Option Addr} {pn : List (Addr × Obj)} (C : ExcC X.K D) (hz : Zc cls d oe) (hf : ∃ vs, oe.data = .fields vs) : CallR (X.suite a ((a, oe) :: pn)) (.builtin "isinstance") (rIsD X.K D a cls d) := by
  intro pins s σ H xs us Q I r h
  obtain ⟨c, b, dd, fs, rfl, rfl, hx, rfl, e, q⟩ := h
  cases r with
  | cons rx rr =>
    cases rr with
    | cons rt rr =>
      cases rr
      cases rx
      cases rt
      obtain ⟨hget, _⟩ := I.pin (a, oe) (List.mem_append.mpr (.inl List.mem_cons_self))
      obtain ⟨vs, hv⟩ := hf
      obtain ⟨mA, hns, _⟩ := (show ObjOk X.prog X.w H s.heap dd (.xd fs) from I.hok dd _ hx)
      obtain ⟨od, ho, _⟩ := lookIn_ns hns
      have J : PySem.W.InstAt s.heap a oe D (some od) := ⟨hget, hz.1, by unfold PySem.W.notCls; rw [hv] <;> rfl, by rw [hz.2]; exact ho⟩
      have hcl : (PySem.W.clsIn X.K D).isSome = true := by
        obtain ⟨cd, hc, _⟩ := PySem.W.any_some C.hd
        rw [hc]
        rfl
      exact PySem.W.kia_one (PySem.W.kitx_exc hcl C.hg C.hk C.hs C.ha C.hn C.ht C.hm) I.kIn J e (fun z => nomatch z) fun tk => ⟨.bl b, H, I.kept (t' := tk) fun _ _ z => z, rfl, q⟩
/-! ### the text of a number -/
theorem int_cps (i : Int) : ((toString i : String) : Str).cps.all (· < 0x110000) = true := by
  rw [Array.all_eq_true']
  intro c hc
  refine decide_eq_true ?_
  by_cases h : c < 0x110000
  · exact h
  · exact absurd (Array.mem_toList_iff.mpr hc) (int_text_free' c ⟨by omega, by omega⟩ i)
end FS
set_option maxHeartbeats 4000000
/-! a def that makes lambdas: its code object, told by the head's facts -/
namespace FS
open PySem PySem.Spec PyProof.Rows L2
open He (ga ma)
theorem okC {P : Program} {w : World} {K : PySem.W.Frag} {mg : Str → Option Value} {base : Heap} {x : Str} {st : Stmt} {fd : FuncData} {N ps : List Str} {k : Nat} {sp : Sp} (F : Fun K x x st (ga K x) fd) (S : FnScope N ps (defScope st))
    (len : ∀ vs H Q E, sp vs H Q E → vs.length = ps.length)
    (hbody : ∀ (A : Around) (outer : List Env) (s : Shared) (H : Hp) (vs : List V) (Q : VK) (E : XK), A.guards = some [] → Room k (A.deeper (envOfC x (defScope st) s.heap.objs.size (ga K x) (.ref (He.codeOf K (x, none))))) → sp vs H Q E →
      ∃ t, PSs (cxOf CX0 P w K mg base N x (defScope st) (ga K x) (.ref (He.codeOf K (x, none))) A outer s H E).nox (defBody st) t ∧ t { nx := fun _ H' => Q .non H', rt := Q } (L2.start N vs) H) : FnG P w K mg base CX0 (k + 1) (ga K x) fd ps sp := by
  obtain ⟨oc, od, kV, doc, pm, an, cdv, ct, osl, rfl, lk, hcd⟩ := F.ex
  obtain ⟨c, rfl⟩ := He.codeIn_ref hcd
  have ec : He.codeOf K (x, none) = c := He.codeOf_eq lk rfl
  subst ec
  refine ⟨len, fun A outer s H args us vs Q E hg hr e0 hb r hsp => ?_⟩
  refine LamX.run_ofS lk hcd S hr e0 hb r (len _ _ _ _ hsp) fun hr' => ?_
  obtain ⟨t, ht, q⟩ := hbody A outer s H vs Q E hg hr' hsp
  exact ⟨t, ht.nox, q⟩
end FS
set_option maxHeartbeats 4000000
namespace K42
open PySem PySem.Spec PyProof.Rows L2 FS
open He (ga ma)
/-! ### the text -/
def topS (i : Nat) : Stmt := PySem.Challenge.pw_formstead_k42_words_there_and_back.main.body.getD i (.Pass ⟨0, 0, 0, 0⟩)
abbrev s_is_within : Stmt := topS 7
abbrev N_is_within : List Str := ["value", "low", "high"]
theorem sc_is_within : FnScope N_is_within ["value", "low", "high"] (defScope s_is_within) := ⟨rfl, rfl, rfl, by decide +kernel, rfl, by decide +kernel, by decide +kernel⟩
abbrev s_check_within : Stmt := topS 8
abbrev N_check_within : List Str := ["value", "low", "high"]
theorem sc_check_within : FnScope N_check_within ["value", "low", "high"] (defScope s_check_within) := ⟨rfl, rfl, rfl, by decide +kernel, rfl, by decide +kernel, by decide +kernel⟩
abbrev s_has_fields : Stmt := topS 9
abbrev N_has_fields : List Str := ["kind", "fields"]
theorem sc_has_fields : FnScope N_has_fields ["kind", "fields"] (defScope s_has_fields) := ⟨rfl, rfl, rfl, by decide +kernel, rfl, by decide +kernel, by decide +kernel⟩
abbrev s_read : Stmt := topS 10
abbrev N_read : List Str := ["word", "rest", "worth"]
theorem sc_read : FnScope N_read ["word"] (defScope s_read) := ⟨rfl, rfl, rfl, by decide +kernel, rfl, by decide +kernel, by decide +kernel⟩
abbrev s_read_word : Stmt := topS 12
abbrev N_read_word : List Str := ["word"]
theorem sc_read_word : FnScope N_read_word ["word"] (defScope s_read_word) := ⟨rfl, rfl, rfl, by decide +kernel, rfl, by decide +kernel, by decide +kernel⟩
abbrev s_number_word : Stmt := topS 13
abbrev N_number_word : List Str := ["number"]
theorem sc_number_word : FnScope N_number_word ["number"] (defScope s_number_word) := ⟨rfl, rfl, rfl, by decide +kernel, rfl, by decide +kernel, by decide +kernel⟩
abbrev s_address_word : Stmt := topS 14
abbrev N_address_word : List Str := ["place"]
theorem sc_address_word : FnScope N_address_word ["place"] (defScope s_address_word) := ⟨rfl, rfl, rfl, by decide +kernel, rfl, by decide +kernel, by decide +kernel⟩
abbrev s_mark_word : Stmt := topS 15
abbrev N_mark_word : List Str := ["mark"]
theorem sc_mark_word : FnScope N_mark_word ["mark"] (defScope s_mark_word) := ⟨rfl, rfl, rfl, by decide +kernel, rfl, by decide +kernel, by decide +kernel⟩
abbrev s_check_name : Stmt := topS 16
abbrev N_check_name : List Str := ["name", "names"]
theorem sc_check_name : FnScope N_check_name ["name", "names"] (defScope s_check_name) := ⟨rfl, rfl, rfl, by decide +kernel, rfl, by decide +kernel, by decide +kernel⟩
abbrev s_header_word : Stmt := topS 17
abbrev N_header_word : List Str := ["kind", "fields"]
theorem sc_header_word : FnScope N_header_word ["kind", "fields"] (defScope s_header_word) := ⟨rfl, rfl, rfl, by decide +kernel, rfl, by decide +kernel, by decide +kernel⟩
abbrev s__law_well : Stmt := topS 19
abbrev N__law_well : List Str := ["_law_script", "_law_turn", "_law_mixed", "_law_cell", "_law_own"]
theorem sc__law_well : FnScope N__law_well ["_law_script", "_law_turn"] (defScope s__law_well) := ⟨rfl, rfl, rfl, by decide +kernel, rfl, by decide +kernel, by decide +kernel⟩
abbrev s__law_draw : Stmt := topS 20
abbrev N__law_draw : List Str := ["_law_well_here", "_law_many", "_law_figure", "_law_seed"]
theorem sc__law_draw : FnScope N__law_draw ["_law_well_here", "_law_many"] (defScope s__law_draw) := ⟨rfl, rfl, rfl, by decide +kernel, rfl, by decide +kernel, by decide +kernel⟩
abbrev s__law_pick : Stmt := topS 21
abbrev N__law_pick : List Str := ["_law_well_here", "_law_some"]
theorem sc__law_pick : FnScope N__law_pick ["_law_well_here", "_law_some"] (defScope s__law_pick) := ⟨rfl, rfl, rfl, by decide +kernel, rfl, by decide +kernel, by decide +kernel⟩
abbrev s__law_same : Stmt := topS 22
abbrev N__law_same : List Str := ["_law_told_here", "_law_due", "_law_x", "_law_y"]
theorem sc__law_same : FnScope N__law_same ["_law_told_here", "_law_due"] (defScope s__law_same) := ⟨rfl, rfl, rfl, by decide +kernel, rfl, by decide +kernel, by decide +kernel⟩
abbrev s__law_read : Stmt := topS 23
abbrev N__law_read : List Str := ["_law_word", "_law_sort", "_law_number"]
theorem sc__law_read : FnScope N__law_read ["_law_word"] (defScope s__law_read) := ⟨rfl, rfl, rfl, by decide +kernel, rfl, by decide +kernel, by decide +kernel⟩
abbrev s__law_wide : Stmt := topS 24
abbrev N__law_wide : List Str := ["_law_well_here", "_law_branch"]
theorem sc__law_wide : FnScope N__law_wide ["_law_well_here"] (defScope s__law_wide) := ⟨rfl, rfl, rfl, by decide +kernel, rfl, by decide +kernel, by decide +kernel⟩
abbrev s__law_odd : Stmt := topS 25
abbrev N__law_odd : List Str := ["_law_well_here", "_law_far"]
theorem sc__law_odd : FnScope N__law_odd ["_law_well_here"] (defScope s__law_odd) := ⟨rfl, rfl, rfl, by decide +kernel, rfl, by decide +kernel, by decide +kernel⟩
abbrev s__law_told : Stmt := topS 26
abbrev N__law_told : List Str := ["_law_call", "e"]
theorem sc__law_told : FnScope N__law_told ["_law_call"] (defScope s__law_told) := ⟨rfl, rfl, rfl, by decide +kernel, rfl, by decide +kernel, by decide +kernel⟩
abbrev s__law_any_word : Stmt := topS 27
abbrev N__law_any_word : List Str := ["_law_well_here", "_law_branch", "_law_near", "_law_far"]
theorem sc__law_any_word : FnScope N__law_any_word ["_law_well_here"] (defScope s__law_any_word) := ⟨rfl, rfl, rfl, by decide +kernel, rfl, by decide +kernel, by decide +kernel⟩
abbrev s__law_is_right : Stmt := topS 28
abbrev N__law_is_right : List Str := ["_law_well_here", "_law_number", "_law_place", "_law_mark", "_law_fields", "_law_words", "_law_told_here", "_law_due", "_law_word", "_law_odd_here"]
theorem sc__law_is_right : FnScope N__law_is_right ["_law_well_here"] (defScope s__law_is_right) := ⟨rfl, rfl, rfl, by decide +kernel, rfl, by decide +kernel, by decide +kernel⟩
abbrev s__law_is_refused : Stmt := topS 29
abbrev N__law_is_refused : List Str := ["_law_well_here", "_law_odd_here", "_law_kind", "_law_below", "_law_due", "_law_fields", "_law_is_right_here", "_law_told_here", "_law_name"]
theorem sc__law_is_refused : FnScope N__law_is_refused ["_law_well_here"] (defScope s__law_is_refused) := ⟨rfl, rfl, rfl, by decide +kernel, rfl, by decide +kernel, by decide +kernel⟩
abbrev s_law : Stmt := topS 30
abbrev N_law : List Str := ["_law_script", "_law_turn", "_law_well_here", "_law_times"]
theorem sc_law : FnScope N_law ["_law_script"] (defScope s_law) := ⟨rfl, rfl, rfl, by decide +kernel, rfl, by decide +kernel, by decide +kernel⟩
abbrev s_init1 : Stmt := inClass (topS 2) 0
abbrev s_init2 : Stmt := inClass (topS 3) 0
abbrev N_init : List Str := ["self", "given"]
theorem sc_init1 : FnScope N_init ["self", "given"] (defScope s_init1) := ⟨rfl, rfl, rfl, by decide +kernel, rfl, by decide +kernel, by decide +kernel⟩
theorem sc_init2 : FnScope N_init ["self", "given"] (defScope s_init2) := ⟨rfl, rfl, rfl, by decide +kernel, rfl, by decide +kernel, by decide +kernel⟩
/-! ### what the top has written -/
structure Tx (K : PySem.W.Frag) (mg : Str → Option Value) : Type where
  n_isinstance : mg "isinstance" = none
  n_int : mg "int" = none
  n_bool : mg "bool" = none
  n_str : mg "str" = none
  n_tuple : mg "tuple" = none
  n_len : mg "len" = none
  n_all : mg "all" = none
  n_zip : mg "zip" = none
  n_abs : mg "abs" = none
  n_divmod : mg "divmod" = none
  n_max : mg "max" = none
  n_min : mg "min" = none
  n_range : mg "range" = none
  n_repr : mg "repr" = none
  t_MOST : Tok
  mg_MOST : mg "MOST" = some (.int 999999999 t_MOST)
  mg_KINDS : mg "KINDS" = some (.ref (ga K "KINDS"))
  sK : ∀ H, SqT K H (ga K "KINDS") [.str "closure", .str "pair", .str "box"]
  sKd : ∃ o, K.lookup (ga K "KINDS") = some o ∧ o.cls = .type "tuple" ∧ o.dict = none
  mg_FormError : mg "FormError" = some (.ref (ga K "FormError"))
  mg_InvalidNumber : mg "InvalidNumber" = some (.ref (ga K "InvalidNumber"))
  mg_InvalidName : mg "InvalidName" = some (.ref (ga K "InvalidName"))
  x1 : ExT K (ga K "InvalidNumber") "given"
  x2 : ExT K (ga K "InvalidName") "given"
  e11 : PySem.W.exmOne K (.ref (ga K "InvalidNumber")) (.ref (ga K "InvalidNumber")) = some true
  e21 : PySem.W.exmOne K (.ref (ga K "InvalidName")) (.ref (ga K "InvalidNumber")) = some false
  e22 : PySem.W.exmOne K (.ref (ga K "InvalidName")) (.ref (ga K "InvalidName")) = some true
  k1F : PySem.W.kitOne K (.ref (ga K "InvalidNumber")) (.ref (ga K "FormError")) = some true
  k12 : PySem.W.kitOne K (.ref (ga K "InvalidNumber")) (.ref (ga K "InvalidName")) = some false
  k2F : PySem.W.kitOne K (.ref (ga K "InvalidName")) (.ref (ga K "FormError")) = some true
  fdI1 : FuncData
  FI1 : Fun K "__init__" "InvalidNumber.__init__" s_init1 (ma K (ga K "InvalidNumber") "__init__") fdI1
  bI1 : Binds K fdI1 ["self", "given"] []
  fdI2 : FuncData
  FI2 : Fun K "__init__" "InvalidName.__init__" s_init2 (ma K (ga K "InvalidName") "__init__") fdI2
  bI2 : Binds K fdI2 ["self", "given"] []
  fd_is_within : FuncData
  F_is_within : Fun K "is_within" "is_within" s_is_within (ga K "is_within") fd_is_within
  mg_is_within : mg "is_within" = some (.ref (ga K "is_within"))
  b_is_within : Binds K fd_is_within ["value", "low", "high"] []
  fd_check_within : FuncData
  F_check_within : Fun K "check_within" "check_within" s_check_within (ga K "check_within") fd_check_within
  mg_check_within : mg "check_within" = some (.ref (ga K "check_within"))
  b_check_within : Binds K fd_check_within ["value", "low", "high"] []
  fd_has_fields : FuncData
  F_has_fields : Fun K "has_fields" "has_fields" s_has_fields (ga K "has_fields") fd_has_fields
  mg_has_fields : mg "has_fields" = some (.ref (ga K "has_fields"))
  b_has_fields : Binds K fd_has_fields ["kind", "fields"] []
  fd_read : FuncData
  F_read : Fun K "read" "read" s_read (ga K "read") fd_read
  mg_read : mg "read" = some (.ref (ga K "read"))
  b_read : Binds K fd_read ["word"] []
  fd_read_word : FuncData
  F_read_word : Fun K "read_word" "read_word" s_read_word (ga K "read_word") fd_read_word
  mg_read_word : mg "read_word" = some (.ref (ga K "read_word"))
  b_read_word : Binds K fd_read_word ["word"] []
  fd_number_word : FuncData
  F_number_word : Fun K "number_word" "number_word" s_number_word (ga K "number_word") fd_number_word
  mg_number_word : mg "number_word" = some (.ref (ga K "number_word"))
  b_number_word : Binds K fd_number_word ["number"] []
  fd_address_word : FuncData
  F_address_word : Fun K "address_word" "address_word" s_address_word (ga K "address_word") fd_address_word
  mg_address_word : mg "address_word" = some (.ref (ga K "address_word"))
  b_address_word : Binds K fd_address_word ["place"] []
  fd_mark_word : FuncData
  F_mark_word : Fun K "mark_word" "mark_word" s_mark_word (ga K "mark_word") fd_mark_word
  mg_mark_word : mg "mark_word" = some (.ref (ga K "mark_word"))
  b_mark_word : Binds K fd_mark_word ["mark"] []
  fd_check_name : FuncData
  F_check_name : Fun K "check_name" "check_name" s_check_name (ga K "check_name") fd_check_name
  mg_check_name : mg "check_name" = some (.ref (ga K "check_name"))
  b_check_name : Binds K fd_check_name ["name", "names"] []
  fd_header_word : FuncData
  F_header_word : Fun K "header_word" "header_word" s_header_word (ga K "header_word") fd_header_word
  mg_header_word : mg "header_word" = some (.ref (ga K "header_word"))
  b_header_word : Binds K fd_header_word ["kind", "fields"] []
  fd__law_well : FuncData
  F__law_well : Fun K "_law_well" "_law_well" s__law_well (ga K "_law_well") fd__law_well
  mg__law_well : mg "_law_well" = some (.ref (ga K "_law_well"))
  b__law_well : Binds K fd__law_well ["_law_script", "_law_turn"] []
  fd__law_draw : FuncData
  F__law_draw : Fun K "_law_draw" "_law_draw" s__law_draw (ga K "_law_draw") fd__law_draw
  mg__law_draw : mg "_law_draw" = some (.ref (ga K "_law_draw"))
  b__law_draw : Binds K fd__law_draw ["_law_well_here", "_law_many"] []
  fd__law_pick : FuncData
  F__law_pick : Fun K "_law_pick" "_law_pick" s__law_pick (ga K "_law_pick") fd__law_pick
  mg__law_pick : mg "_law_pick" = some (.ref (ga K "_law_pick"))
  b__law_pick : Binds K fd__law_pick ["_law_well_here", "_law_some"] []
  fd__law_same : FuncData
  F__law_same : Fun K "_law_same" "_law_same" s__law_same (ga K "_law_same") fd__law_same
  mg__law_same : mg "_law_same" = some (.ref (ga K "_law_same"))
  b__law_same : Binds K fd__law_same ["_law_told_here", "_law_due"] []
  fd__law_read : FuncData
  F__law_read : Fun K "_law_read" "_law_read" s__law_read (ga K "_law_read") fd__law_read
  mg__law_read : mg "_law_read" = some (.ref (ga K "_law_read"))
  b__law_read : Binds K fd__law_read ["_law_word"] []
  fd__law_wide : FuncData
  F__law_wide : Fun K "_law_wide" "_law_wide" s__law_wide (ga K "_law_wide") fd__law_wide
  mg__law_wide : mg "_law_wide" = some (.ref (ga K "_law_wide"))
  b__law_wide : Binds K fd__law_wide ["_law_well_here"] []
  fd__law_odd : FuncData
  F__law_odd : Fun K "_law_odd" "_law_odd" s__law_odd (ga K "_law_odd") fd__law_odd
  mg__law_odd : mg "_law_odd" = some (.ref (ga K "_law_odd"))
  b__law_odd : Binds K fd__law_odd ["_law_well_here"] []
  fd__law_told : FuncData
  F__law_told : Fun K "_law_told" "_law_told" s__law_told (ga K "_law_told") fd__law_told
  mg__law_told : mg "_law_told" = some (.ref (ga K "_law_told"))
  b__law_told : Binds K fd__law_told ["_law_call"] []
  fd__law_any_word : FuncData
  F__law_any_word : Fun K "_law_any_word" "_law_any_word" s__law_any_word (ga K "_law_any_word") fd__law_any_word
  mg__law_any_word : mg "_law_any_word" = some (.ref (ga K "_law_any_word"))
  b__law_any_word : Binds K fd__law_any_word ["_law_well_here"] []
  fd__law_is_right : FuncData
  F__law_is_right : Fun K "_law_is_right" "_law_is_right" s__law_is_right (ga K "_law_is_right") fd__law_is_right
  mg__law_is_right : mg "_law_is_right" = some (.ref (ga K "_law_is_right"))
  b__law_is_right : Binds K fd__law_is_right ["_law_well_here"] []
  fd__law_is_refused : FuncData
  F__law_is_refused : Fun K "_law_is_refused" "_law_is_refused" s__law_is_refused (ga K "_law_is_refused") fd__law_is_refused
  mg__law_is_refused : mg "_law_is_refused" = some (.ref (ga K "_law_is_refused"))
  b__law_is_refused : Binds K fd__law_is_refused ["_law_well_here"] []
  fd_law : FuncData
  F_law : Fun K "law" "law" s_law (ga K "law") fd_law
  mg_law : mg "law" = some (.ref (ga K "law"))
  b_law : Binds K fd_law ["_law_script"] []
/-! ### short words -/
theorem nab10 : Int.natAbs 10 = 10 := rfl
theorem m_int : ("int" ∈ tyNames.tail) = True := by decide
theorem m_bool : ("bool" ∈ tyNames.tail) = True := by decide
theorem m_str : ("str" ∈ tyNames.tail) = True := by decide
theorem m_tup : ("tuple" ∈ tyNames.tail) = True := by decide
theorem cxK {CX : CXT} {P : Program} {w : World} {K : PySem.W.Frag} {mg : Str → Option Value} {base : Heap} {N : List Str} {qual : Str} {scope : Scope} {f : Addr} {cd : Value} {A : Around} {outer : List Env} {s : Shared} {H : Hp} {E : XK} : (cxOf CX P w K mg base N qual scope f cd A outer s H E).K = K := rfl
theorem cxKn {CX : CXT} {P : Program} {w : World} {K : PySem.W.Frag} {mg : Str → Option Value} {base : Heap} {N : List Str} {qual : Str} {scope : Scope} {f : Addr} {cd : Value} {A : Around} {outer : List Env} {s : Shared} {H : Hp} {E : XK} : ((cxOf CX P w K mg base N qual scope f cd A outer s H E).nox).K = K := rfl
local macro_rules | `(tactic| walk_at "rd") => `(tactic| simp only [tSeq, tIfS, tNext, tRet, tAsg, tDrop, tPar, gName, gTup, gCons, gNil, gSub, tAnd, tOr, tNot, tB, tTest, tIf, tAndV, tOrV, tNotV, tCB, tCons, tNil, tVar, tC, tOp, tUn, rU, rI, rI0, rEq, rNe, CMul, CDiv, CPow, tTup, tLst, tDNewK, rIsiN, rInt1, tChain, tCall, tRaise1, rIxT, rIxL, rIxA, rSetA, gTupA, rLenA, seqO, at0, at1, at2, ix0, ix1, ix2, upd_same, upd_upd,
  L2.start, List.map_cons, List.map_nil, List.length_cons, List.length_nil, List.cons_append, List.nil_append, List.append_nil, List.replicate_succ, List.replicate_zero, Nat.reduceAdd, Nat.reduceSub, List.set_cons_zero, List.set_cons_succ,
  List.getElem?_cons_zero, List.getElem?_cons_succ, Option.some.injEq, exists_eq_left', exists_eq_left, V.int.injEq, V.bl.injEq, V.str.injEq, V.ref.injEq, V.ty.injEq, List.cons.injEq, reduceCtorEq, false_and, exists_false, true_and, and_true, decide_eq_true_eq, Bool.not_eq_true', decide_eq_false_iff_not, exists_const, and_assoc, exists_and_left, Int.reducePow, Int.reduceLE, Int.reduceToNat, nab10, Int.reduceMul, Int.reduceSub, Int.reduceAdd, Nat.reducePow, Nat.reduceLT, Int.reduceNeg, Int.reduceLT, or_true, true_or, sizeLine_eq, Nat.reduceLeDiff, ne_eq, not_false_eq_true, tyN, isOf, scal, m_int, m_bool, m_str, m_tup, cxK, cxKn, String.reduceBEq, Bool.true_or, Bool.or_true, Bool.or_false, Bool.false_or, Bool.and_true, Bool.true_and, Bool.false_and, Bool.and_false, Bool.not_true, Bool.not_false, Bool.false_eq_true, ↓reduceIte, not_true_eq_false, not_false_eq_true])

section
variable {P : Program} {w : World} {K : PySem.W.Frag} {mg : Str → Option Value} {base : Heap}
/-! ### errors -/
theorem ok_init1 (T : Tx K mg) : FnOk P w K mg base CX0 1 (ma K (ga K "InvalidNumber") "__init__") T.fdI1 ["self", "given"] (spInit (ga K "InvalidNumber") "given") := by
  refine T.FI1.ok sc_init1 (fun vs H Q E h => ?_) (fun cdv A outer s H vs Q E hr h => ⟨_, pss_one (ps_ost (pv 0) (pv 1)), ?_⟩)
  · obtain ⟨a, v, rfl, _⟩ := h
    rfl
  · obtain ⟨a, v, rfl, ha, q⟩ := h
    exact ⟨_, rfl, _, rfl, a, _, rfl, T.x1.o, T.x1.no, .inl ⟨ha, fun d nd hda => q d nd hda⟩⟩
theorem ok_init2 (T : Tx K mg) : FnOk P w K mg base CX0 1 (ma K (ga K "InvalidName") "__init__") T.fdI2 ["self", "given"] (spInit (ga K "InvalidName") "given") := by
  refine T.FI2.ok sc_init2 (fun vs H Q E h => ?_) (fun cdv A outer s H vs Q E hr h => ⟨_, pss_one (ps_ost (pv 0) (pv 1)), ?_⟩)
  · obtain ⟨a, v, rfl, _⟩ := h
    rfl
  · obtain ⟨a, v, rfl, ha, q⟩ := h
    exact ⟨_, rfl, _, rfl, a, _, rfl, T.x2.o, T.x2.no, .inl ⟨ha, fun d nd hda => q d nd hda⟩⟩
/-! ### is_within, check_within -/
def within (v : V) (lo hi : Int) : Bool := match v with
  | .int i => decide (lo ≤ i) && decide (i ≤ hi)
  | _ => false
def sp_is_within : Sp := fun vs H Q _ => ∃ (v : V) (lo hi : Int) (s : String), vs = [v, .int lo, .int hi] ∧ tyN H v = some s ∧ Q (.bl (within v lo hi)) H
theorem ok_is_within (T : Tx K mg) : FnOk P w K mg base CX0 1 (ga K "is_within") T.fd_is_within ["value", "low", "high"] sp_is_within := by
  refine T.F_is_within.ok sc_is_within (fun vs H Q E h => ?_) (fun cdv A outer s H vs Q E hr h => ⟨_, (pss_one (ps_ret (pe_and (pe_callB call_isiN (by rfl) T.n_isinstance (by decide +kernel) (pa_cons (pv 0) (pa_cons (pe_bltn (v := .ty "int") (by rfl) T.n_int (by decide +kernel) rfl) pa_nil))) (pe_and (pe_not (pe_callB call_isiN (by rfl) T.n_isinstance (by decide +kernel) (pa_cons (pv 0) (pa_cons (pe_bltn (v := .ty "bool") (by rfl) T.n_bool (by decide +kernel) rfl) pa_nil)))) (pe_one (pe_chain op_le op_le (pv 1) (pv 0) (pv 2))))))), ?_⟩)
  · obtain ⟨v, lo, hi, s, rfl, _⟩ := h
    rfl
  · obtain ⟨v, lo, hi, s, rfl, hs, q⟩ := h
    cases v with
    | int i =>
      cases hs
      walk_at "rd"
      simp only [within] at q
      by_cases h1 : lo ≤ i
      · rw [if_pos h1]; simpa [h1] using q
      · rw [if_neg h1]; simpa [h1] using q
    | ref a =>
      have h2 : isOf s "int" = false := by
        unfold tyN at hs
        dsimp only at hs
        split at hs <;> cases hs <;> decide
      exact ⟨_, rfl, s, hs, by decide, false, by rw [h2], iteF q⟩
    | _ => first | (cases hs; walk_at "rd"; exact q) | cases hs
def sp_check_within (C : Addr) : Sp := fun vs H Q E => ∃ (v : V) (lo hi : Int) (s : String), vs = [v, .int lo, .int hi] ∧ tyN H v = some s ∧ (within v lo hi = true → Q .non H) ∧
  (within v lo hi = false → ∀ d, H d = none → E (.ref C) (some d) (upd H d (.xd [("given", v)])))
theorem ok_check_within (T : Tx K mg) : FnOk P w K mg base (L2.CX P w) 3 (ga K "check_within") T.fd_check_within ["value", "low", "high"] (sp_check_within (ga K "InvalidNumber")) := by
  refine T.F_check_within.okX sc_check_within (fun vs H Q E h => ?_) (fun cdv A outer s H vs Q E hr h => ⟨_, (pss_one (ps_if (pt_not (pt_val (pe_call (ok_is_within T) (hr.mono (by decide)) (by rfl) T.mg_is_within T.F_is_within.kp T.b_is_within .nil pass0 (pa_cons (pv 0) (pa_cons (pv 1) (pa_cons (pv 2) pa_nil)))))) (pss_one (ps_raise1 T.x1 (ok_init1 T) hr T.bI1 rfl (takes_of rfl rfl rfl rfl) (by rfl) T.mg_InvalidNumber (pv 0))) pss_nil)), ?_⟩)
  · obtain ⟨v, lo, hi, s, rfl, _⟩ := h
    rfl
  · obtain ⟨v, lo, hi, s, rfl, hs, q1, q2⟩ := h
    refine ⟨_, rfl, _, rfl, _, rfl, v, lo, hi, s, rfl, hs, _, rfl, ?_⟩
    cases e : within v lo hi with
    | true => rw [if_neg (by decide)]; exact q1 e
    | false => rw [if_pos (by decide)]; exact ⟨_, rfl, q2 e⟩
end
end K42
set_option maxHeartbeats 4000000
namespace K42
open PySem PySem.Spec PyProof.Rows L2 FS
open He (ga ma)
local macro_rules | `(tactic| walk_at "rd") => `(tactic| simp only [tSeq, tIfS, tNext, tRet, tAsg, tDrop, tPar, gName, gTup, gCons, gNil, gSub, tAnd, tOr, tNot, tB, tTest, tIf, tAndV, tOrV, tNotV, tCB, tCons, tNil, tVar, tC, tOp, tUn, rU, rI, rI0, rEq, rNe, CMul, CDiv, CPow, tTup, tLst, tDNewK, rIsiN, rInt1, tChain, tCall, tRaise1, rIxT, rIxL, rIxA, rSetA, gTupA, rLenA, seqO, at0, at1, at2, ix0, ix1, ix2, upd_same, upd_upd,
  L2.start, List.map_cons, List.map_nil, List.length_cons, List.length_nil, List.cons_append, List.nil_append, List.append_nil, List.replicate_succ, List.replicate_zero, Nat.reduceAdd, Nat.reduceSub, List.set_cons_zero, List.set_cons_succ,
  List.getElem?_cons_zero, List.getElem?_cons_succ, Option.some.injEq, exists_eq_left', exists_eq_left, V.int.injEq, V.bl.injEq, V.str.injEq, V.ref.injEq, V.ty.injEq, List.cons.injEq, reduceCtorEq, false_and, exists_false, true_and, and_true, decide_eq_true_eq, Bool.not_eq_true', decide_eq_false_iff_not, exists_const, and_assoc, exists_and_left, Int.reducePow, Int.reduceLE, Int.reduceToNat, nab10, Int.reduceMul, Int.reduceSub, Int.reduceAdd, Nat.reducePow, Nat.reduceLT, Int.reduceNeg, Int.reduceLT, or_true, true_or, sizeLine_eq, Nat.reduceLeDiff, ne_eq, not_false_eq_true, tyN, isOf, scal, m_int, m_bool, m_str, m_tup, cxK, cxKn, String.reduceBEq, Bool.true_or, Bool.or_true, Bool.or_false, Bool.false_or, Bool.and_true, Bool.true_and, Bool.false_and, Bool.and_false, Bool.not_true, Bool.not_false, Bool.false_eq_true, ↓reduceIte, not_true_eq_false, not_false_eq_true])

/-! ### words: what a value is as a word -/
def kindS (k : Int) : Str := if k = 0 then "closure" else if k = 1 then "pair" else "box"
/-- has_fields, of an int -/
def hasF (kind : Str) (n : Int) : Bool := if kind = "closure" then decide (1 ≤ n) && decide (n ≤ 999999999) else decide (n = if kind = "pair" then 2 else 1)
def rdI (i : Int) : Option (List V) :=
  if i % 4 = 0 then (if -999999999 ≤ i / 4 ∧ i / 4 ≤ 999999999 then some [.str "number", .int (i / 4)] else none)
  else if i % 4 < 3 then (if 0 ≤ i / 4 ∧ i / 4 ≤ 999999999 then some [.str (if i % 4 = 1 then "address" else "mark"), .int (i / 4)] else none)
  else if i / 4 < 0 ∨ 3 ≤ i / 4 % 8 ∨ hasF (kindS (i / 4 % 8)) (i / 4 / 8) = false then none else some [.str "header", .str (kindS (i / 4 % 8)), .int (i / 4 / 8)]
def rd : V → Option (List V)
  | .int i => rdI i
  | _ => none
section
variable {P : Program} {w : World} {K : PySem.W.Frag} {mg : Str → Option Value} {base : Heap}
def sp_has_fields : Sp := fun vs H Q _ => ∃ (k : Str) (n : Int), vs = [.str k, .int n] ∧ Q (.bl (hasF k n)) H
theorem ok_has_fields (T : Tx K mg) : FnOk P w K mg base CX0 1 (ga K "has_fields") T.fd_has_fields ["kind", "fields"] sp_has_fields := by
  refine T.F_has_fields.ok sc_has_fields (fun vs H Q E h => ?_) (fun cdv A outer s H vs Q E hr h => ⟨_, (pss_cons (ps_if (pt_cmpR op_eq (pv 0) pe_str (nomark _)) (pss_one (ps_ret (pe_chain op_le op_le pe_int (pv 1) (pe_glob (v := .int (999999999)) rfl T.mg_MOST ⟨_, rfl⟩)))) pss_nil)
    (pss_one (ps_ret (pe_cmpR op_eq (pv 1) (pe_ifExp (pt_cmpR op_eq (pv 0) pe_str (nomark _)) pe_int pe_int) (nomark _))))), ?_⟩)
  · obtain ⟨k, n, rfl, _⟩ := h
    rfl
  · obtain ⟨k, n, rfl, q⟩ := h
    walk_at "rd"
    unfold hasF at q
    by_cases h1 : k = "closure"
    · rw [if_pos h1] at q ⊢
      by_cases h2 : 1 ≤ n
      · rw [if_pos h2]; simpa [h2] using q
      · rw [if_neg h2]; simpa [h2] using q
    · rw [if_neg h1] at q ⊢
      by_cases h2 : k = "pair"
      · rw [if_pos h2] at q ⊢
        exact q
      · rw [if_neg h2] at q ⊢
        exact q
theorem kinds_at {k : Int} (h0 : 0 ≤ k) (h3 : k < 3) : atI [V.str "closure", .str "pair", .str "box"] k = some (.str (kindS k)) := by
  rcases (show k = 0 ∨ k = 1 ∨ k = 2 by omega) with rfl | rfl | rfl <;> rfl
def sp_read : Sp := fun vs H Q _ => ∃ (v : V) (s : String), vs = [v] ∧ tyN H v = some s ∧ (rd v = none → Q .non H) ∧ (∀ xs, rd v = some xs → ∀ p, H p = none → Q (.ref p) (upd H p (.tup xs)))
theorem ok_read (T : Tx K mg) : FnOk P w K mg base CX0 2 (ga K "read") T.fd_read ["word"] sp_read := by
  refine T.F_read.ok sc_read (fun vs H Q E h => ?_) (fun cdv A outer s H vs Q E hr h => ⟨_, (pss_cons (ps_if (PW.pt (pw_or (pt_not (pt_val (pe_callB call_isiN (by rfl) T.n_isinstance (by decide +kernel) (pa_cons (pv 0) (pa_cons (pe_bltn (v := .ty "int") (by rfl) T.n_int (by decide +kernel) rfl) pa_nil))))) (pw_or1 (pt_val (pe_callB call_isiN (by rfl) T.n_isinstance (by decide +kernel) (pa_cons (pv 0) (pa_cons (pe_bltn (v := .ty "bool") (by rfl) T.n_bool (by decide +kernel) rfl) pa_nil))))))) (pss_one (ps_ret pe_non)) pss_nil)
    (pss_cons (ps_par (i := 1) (j := 2) rfl sc_read.nd rfl rfl (by decide) rfl rfl (pa_cons (pe_op op_mod (pv 0) pe_int) (pa_cons (pe_op op_fdiv (pv 0) pe_int) pa_nil)) (by rfl))
    (pss_cons (ps_if (pt_cmpR op_eq (pv 1) pe_int (nomark _)) (pss_one (ps_ret (pe_ifExp (pt_chain op_le op_le (pe_un un_neg (pe_glob (v := .int (999999999)) rfl T.mg_MOST ⟨_, rfl⟩)) (pv 2) (pe_glob (v := .int (999999999)) rfl T.mg_MOST ⟨_, rfl⟩)) (pe_tup (pa_cons pe_str (pa_cons (pv 2) pa_nil))) pe_non))) pss_nil)
    (pss_cons (ps_if (pt_cmpR op_lt (pv 1) pe_int (nomark _)) (pss_one (ps_ret (pe_ifExp (pt_chain op_le op_le pe_int (pv 2) (pe_glob (v := .int (999999999)) rfl T.mg_MOST ⟨_, rfl⟩)) (pe_tup (pa_cons (pe_ifExp (pt_cmpR op_eq (pv 1) pe_int (nomark _)) pe_str pe_str) (pa_cons (pv 2) pa_nil))) pe_non))) pss_nil)
    (pss_cons (ps_if (PW.pt (pw_or (pt_cmpR op_lt (pv 2) pe_int (nomark _)) (pw_or (pt_cmpR op_ge (pe_op op_mod (pv 2) pe_int) (pe_callB call_len_seq (by rfl) T.n_len (by decide +kernel) (pa_cons (pe_glob (v := .ref (ga K "KINDS")) rfl T.mg_KINDS rfl) pa_nil)) (nomark _)) (pw_or1 (pt_not (pt_val (pe_call (ok_has_fields T) (hr.mono (by decide)) (by rfl) T.mg_has_fields T.F_has_fields.kp T.b_has_fields .nil pass0 (pa_cons (pe_ix ix_tup (pe_glob (v := .ref (ga K "KINDS")) rfl T.mg_KINDS rfl) (pe_op op_mod (pv 2) pe_int) (fun _ _ => rfl)) (pa_cons (pe_op op_fdiv (pv 2) pe_int) pa_nil))))))))) (pss_one (ps_ret pe_non)) pss_nil)
    (pss_one (ps_ret (pe_tup (pa_cons pe_str (pa_cons (pe_ix ix_tup (pe_glob (v := .ref (ga K "KINDS")) rfl T.mg_KINDS rfl) (pe_op op_mod (pv 2) pe_int) (fun _ _ => rfl)) (pa_cons (pe_op op_fdiv (pv 2) pe_int) pa_nil))))))))))), ?_⟩)
  · obtain ⟨v, s, rfl, _⟩ := h
    rfl
  · obtain ⟨v, s, rfl, hs, q1, q2⟩ := h
    cases v with
    | int i =>
      cases hs
      simp only [rd] at q1 q2
      walk_at "rd"
      by_cases h1 : i % 4 = 0
      · rw [if_pos h1]
        by_cases h2 : -999999999 ≤ i / 4
        · rw [if_pos h2]
          by_cases h3 : i / 4 ≤ 999999999
          · rw [if_pos h3]; exact q2 _ (by unfold rdI; rw [if_pos h1, if_pos ⟨h2, h3⟩])
          · rw [if_neg h3]; exact q1 (by unfold rdI; rw [if_pos h1, if_neg fun z => h3 z.2])
        · rw [if_neg h2]; exact q1 (by unfold rdI; rw [if_pos h1, if_neg fun z => h2 z.1])
      · rw [if_neg h1]
        by_cases h4 : i % 4 < 3
        · rw [if_pos h4]
          by_cases h2 : 0 ≤ i / 4
          · rw [if_pos h2]
            by_cases h3 : i / 4 ≤ 999999999
            · rw [if_pos h3]
              by_cases h5 : i % 4 = 1
              · rw [if_pos h5]; exact q2 _ (by unfold rdI; rw [if_neg h1, if_pos h4, if_pos ⟨h2, h3⟩, if_pos h5])
              · rw [if_neg h5]; exact q2 _ (by unfold rdI; rw [if_neg h1, if_pos h4, if_pos ⟨h2, h3⟩, if_neg h5])
            · rw [if_neg h3]; exact q1 (by unfold rdI; rw [if_neg h1, if_pos h4, if_neg fun z => h3 z.2])
          · rw [if_neg h2]; exact q1 (by unfold rdI; rw [if_neg h1, if_pos h4, if_neg fun z => h2 z.1])
        · rw [if_neg h4]
          by_cases h2 : i / 4 < 0
          · rw [if_pos h2]; exact q1 (by unfold rdI; rw [if_neg h1, if_neg h4, if_pos (.inl h2)])
          · rw [if_neg h2]
            refine ⟨_, .inr (T.sK H), ?_⟩
            by_cases h3 : 3 ≤ i / 4 % 8
            · rw [if_pos (by simpa using h3)]; exact q1 (by unfold rdI; rw [if_neg h1, if_neg h4, if_pos (.inr (.inl h3))])
            · rw [if_neg (by simpa using h3)]
              have ka := kinds_at (k := i / 4 % 8) (by omega) (by omega)
              refine ⟨_, T.sK H, _, ka, _, _, rfl, _, rfl, ?_⟩
              by_cases h5 : hasF (kindS (i / 4 % 8)) (i / 4 / 8) = false
              · rw [if_pos h5]; exact q1 (by unfold rdI; rw [if_neg h1, if_neg h4, if_pos (.inr (.inr h5))])
              · rw [if_neg h5]
                refine ⟨_, T.sK H, _, ka, q2 _ ?_⟩
                unfold rdI
                rw [if_neg h1, if_neg h4, if_neg]
                rintro (z | z | z)
                · exact h2 z
                · exact h3 z
                · exact h5 z
    | ref a =>
      have h2 : isOf s "int" = false := by
        unfold tyN at hs
        dsimp only at hs
        split at hs <;> cases hs <;> decide
      exact ⟨_, rfl, s, hs, by decide, _, rfl, by rw [h2]; exact iteT (iteT (q1 rfl))⟩
    | _ => first | (cases hs; walk_at "rd"; exact q1 rfl) | cases hs
def sp_read_word : Sp := sp_read
theorem ok_read_word (T : Tx K mg) : FnOk P w K mg base CX0 3 (ga K "read_word") T.fd_read_word ["word"] sp_read := by
  refine T.F_read_word.ok sc_read_word (fun vs H Q E h => ?_) (fun cdv A outer s H vs Q E hr h => ⟨_, (pss_one (ps_ret (pe_call (ok_read T) (hr.mono (by decide)) (by rfl) T.mg_read T.F_read.kp T.b_read .nil pass0 (pa_cons (pv 0) pa_nil)))), ?_⟩)
  · obtain ⟨v, s, rfl, _⟩ := h
    rfl
  · obtain ⟨v, s, rfl, hs, q1, q2⟩ := h
    exact ⟨_, rfl, v, s, rfl, hs, q1, q2⟩
/-! ### the words of numbers, places, marks, headers: f a number of the bounds lo, hi -/
def sp_word (C : Addr) (lo hi : Int) (f : Int → Int) : Sp := fun vs H Q E => ∃ (v : V) (s : String), vs = [v] ∧ tyN H v = some s ∧ (∀ i, v = .int i → within v lo hi = true → Q (.int (f i)) H) ∧
  (within v lo hi = false → ∀ d, H d = none → E (.ref C) (some d) (upd H d (.xd [("given", v)])))
theorem within_int {v : V} {lo hi : Int} (h : within v lo hi = true) : ∃ i, v = .int i ∧ lo ≤ i ∧ i ≤ hi := by
  cases v with
  | int i => exact ⟨i, rfl, by simpa [within] using h⟩
  | _ => cases h
theorem ok_number_word (T : Tx K mg) : FnOk P w K mg base (L2.CX P w) 4 (ga K "number_word") T.fd_number_word ["number"] (sp_word (ga K "InvalidNumber") (-999999999) 999999999 fun i => 4 * i) := by
  refine T.F_number_word.okX sc_number_word (fun vs H Q E h => ?_) (fun cdv A outer s H vs Q E hr h => ⟨_, (pss_cons (ps_expr (pe_call (ok_check_within T) (hr.mono (by decide)) (by rfl) T.mg_check_within T.F_check_within.kp T.b_check_within .nil (passes_call (takes_of rfl rfl rfl rfl) (fun _ _ _ _ h => h)) (pa_cons (pv 0) (pa_cons (pe_un un_neg (pe_glob (v := .int (999999999)) rfl T.mg_MOST ⟨_, rfl⟩)) (pa_cons (pe_glob (v := .int (999999999)) rfl T.mg_MOST ⟨_, rfl⟩) pa_nil)))))
    (pss_one (ps_ret (pe_op op_mul pe_int (pv 0))))), ?_⟩)
  · obtain ⟨v, s, rfl, _⟩ := h
    rfl
  · obtain ⟨v, s, rfl, hs, q1, q2⟩ := h
    walk_at "rd"
    refine ⟨v, _, _, s, rfl, hs, fun e => ?_, q2⟩
    obtain ⟨i, rfl, _⟩ := within_int e
    exact ⟨i, rfl, q1 i rfl e⟩
theorem ok_address_word (T : Tx K mg) : FnOk P w K mg base (L2.CX P w) 4 (ga K "address_word") T.fd_address_word ["place"] (sp_word (ga K "InvalidNumber") 0 999999999 fun i => 4 * i + 1) := by
  refine T.F_address_word.okX sc_address_word (fun vs H Q E h => ?_) (fun cdv A outer s H vs Q E hr h => ⟨_, (pss_cons (ps_expr (pe_call (ok_check_within T) (hr.mono (by decide)) (by rfl) T.mg_check_within T.F_check_within.kp T.b_check_within .nil (passes_call (takes_of rfl rfl rfl rfl) (fun _ _ _ _ h => h)) (pa_cons (pv 0) (pa_cons pe_int (pa_cons (pe_glob (v := .int (999999999)) rfl T.mg_MOST ⟨_, rfl⟩) pa_nil)))))
    (pss_one (ps_ret (pe_op op_add (pe_op op_mul pe_int (pv 0)) pe_int)))), ?_⟩)
  · obtain ⟨v, s, rfl, _⟩ := h
    rfl
  · obtain ⟨v, s, rfl, hs, q1, q2⟩ := h
    walk_at "rd"
    refine ⟨v, _, _, s, rfl, hs, fun e => ?_, q2⟩
    obtain ⟨i, rfl, _⟩ := within_int e
    exact ⟨i, rfl, q1 i rfl e⟩
theorem ok_mark_word (T : Tx K mg) : FnOk P w K mg base (L2.CX P w) 4 (ga K "mark_word") T.fd_mark_word ["mark"] (sp_word (ga K "InvalidNumber") 0 999999999 fun i => 4 * i + 2) := by
  refine T.F_mark_word.okX sc_mark_word (fun vs H Q E h => ?_) (fun cdv A outer s H vs Q E hr h => ⟨_, (pss_cons (ps_expr (pe_call (ok_check_within T) (hr.mono (by decide)) (by rfl) T.mg_check_within T.F_check_within.kp T.b_check_within .nil (passes_call (takes_of rfl rfl rfl rfl) (fun _ _ _ _ h => h)) (pa_cons (pv 0) (pa_cons pe_int (pa_cons (pe_glob (v := .int (999999999)) rfl T.mg_MOST ⟨_, rfl⟩) pa_nil)))))
    (pss_one (ps_ret (pe_op op_add (pe_op op_mul pe_int (pv 0)) pe_int)))), ?_⟩)
  · obtain ⟨v, s, rfl, _⟩ := h
    rfl
  · obtain ⟨v, s, rfl, hs, q1, q2⟩ := h
    walk_at "rd"
    refine ⟨v, _, _, s, rfl, hs, fun e => ?_, q2⟩
    obtain ⟨i, rfl, _⟩ := within_int e
    exact ⟨i, rfl, q1 i rfl e⟩
def kinds : List Str := ["closure", "pair", "box"]
/-- check_name(name, KINDS) -/
def sp_check_name (K : PySem.W.Frag) (C : Addr) : Sp := fun vs H Q E => ∃ (v : V) (s : String), vs = [v, .ref (ga K "KINDS")] ∧ tyN H v = some s ∧ ((∃ k, v = .str k ∧ k ∈ kinds) → Q .non H) ∧
  ((¬ ∃ k, v = .str k ∧ k ∈ kinds) → ∀ d, H d = none → E (.ref C) (some d) (upd H d (.xd [("given", v)])))
theorem inV_kinds (k : Str) : inV (.str k) [V.str "closure", .str "pair", .str "box"] = decide (k ∈ kinds) := by
  have e : ∀ a b : Str, eqV (.str a) (.str b) = decide (b = a) := fun a b => by
    show (a == b) = _
    rw [Bool.eq_iff_iff, beq_iff_eq, decide_eq_true_eq]
    exact ⟨Eq.symm, Eq.symm⟩
  have m : (k ∈ kinds) = (k = "closure" ∨ k = "pair" ∨ k = "box") := by
    unfold kinds
    rw [List.mem_cons, List.mem_cons, List.mem_singleton]
  rw [show inV (.str k) [V.str "closure", .str "pair", .str "box"] = (eqV (.str "closure") (.str k) || (eqV (.str "pair") (.str k) || (eqV (.str "box") (.str k) || false))) from rfl, e, e, e, Bool.or_false]
  rw [decide_eq_decide.mpr (iff_of_eq m), Bool.decide_or, Bool.decide_or]
theorem ok_check_name (T : Tx K mg) : FnOk P w K mg base (L2.CX P w) 3 (ga K "check_name") T.fd_check_name ["name", "names"] (sp_check_name K (ga K "InvalidName")) := by
  refine T.F_check_name.okX sc_check_name (fun vs H Q E h => ?_) (fun cdv A outer s H vs Q E hr h => ⟨_, (pss_one (ps_if (PW.pt (pw_or (pt_not (pt_val (pe_callB call_isiN (by rfl) T.n_isinstance (by decide +kernel) (pa_cons (pv 0) (pa_cons (pe_bltn (v := .ty "str") (by rfl) T.n_str (by decide +kernel) rfl) pa_nil))))) (pw_or1 (pt_cmpR op_notIn_seq (pv 0) (pv 1) (by rfl))))) (pss_one (ps_raise1 T.x2 (ok_init2 T) hr T.bI2 rfl (takes_of rfl rfl rfl rfl) (by rfl) T.mg_InvalidName (pv 0))) pss_nil)), ?_⟩)
  · obtain ⟨v, s, rfl, _⟩ := h
    rfl
  · obtain ⟨v, s, rfl, hs, q1, q2⟩ := h
    cases v with
    | str k =>
      cases hs
      walk_at "rd"
      refine ⟨_, _, rfl, .inr (T.sK H), rfl, by decide +kernel, _, rfl, ?_⟩
      rw [inV_kinds]
      by_cases hk : k ∈ kinds
      · rw [if_neg (by simp [hk])]; exact q1 ⟨k, rfl, hk⟩
      · rw [if_pos (by simp [hk])]; exact q2 fun ⟨_, e, h⟩ => hk (V.str.inj e ▸ h)
    | ref a =>
      have h2 : isOf s "str" = false := by
        unfold tyN at hs
        dsimp only at hs
        split at hs <;> cases hs <;> decide
      exact ⟨_, rfl, s, hs, by decide, _, rfl, by rw [h2]; exact iteT (iteT ⟨_, rfl, q2 (by rintro ⟨k, z, _⟩; cases z)⟩)⟩
    | _ => first | (cases hs; walk_at "rd"; exact q2 (by rintro ⟨k, z, _⟩; cases z)) | cases hs
/-- header_word: what it tells of a kind and a number of fields -/
def sp_header_word (C1 C2 : Addr) : Sp := fun vs H Q E => ∃ (k : V) (n : V) (s s2 : String), vs = [k, n] ∧ tyN H k = some s ∧ tyN H n = some s2 ∧
  ((¬ ∃ x, k = .str x ∧ x ∈ kinds) → ∀ d, H d = none → E (.ref C2) (some d) (upd H d (.xd [("given", k)]))) ∧
  (∀ x, k = .str x → x ∈ kinds → ((within n 1 999999999 = false ∨ ∃ i, n = .int i ∧ hasF x i = false) → ∀ d, H d = none → E (.ref C1) (some d) (upd H d (.xd [("given", n)]))) ∧
    ∀ i, n = .int i → within n 1 999999999 = true → hasF x i = true → Q (.int (4 * (8 * i + (if x = "closure" then 0 else if x = "pair" then 1 else 2)) + 3)) H)
theorem kinds_ix {x : Str} (h : x ∈ kinds) : ∃ j : Nat, kinds[j]? = some x ∧ (∀ m, m < j → kinds[m]? ≠ some x) ∧ ((j : Nat) : Int) = (if x = "closure" then 0 else if x = "pair" then 1 else 2) := by
  have m : x = "closure" ∨ x = "pair" ∨ x = "box" := by
    unfold kinds at h
    rw [List.mem_cons, List.mem_cons, List.mem_singleton] at h
    exact h
  rcases m with rfl | rfl | rfl
  · exact ⟨0, rfl, fun m hm => absurd hm (by omega), by rw [if_pos rfl]; rfl⟩
  · refine ⟨1, rfl, fun m hm => ?_, by rw [if_neg (by decide +kernel), if_pos rfl]; rfl⟩
    obtain rfl : m = 0 := by omega
    decide +kernel
  · refine ⟨2, rfl, fun m hm => ?_, by rw [if_neg (by decide +kernel), if_neg (by decide +kernel)]; rfl⟩
    rcases (show m = 0 ∨ m = 1 by omega) with rfl | rfl <;> decide +kernel
theorem ok_header_word (T : Tx K mg) : FnOk P w K mg base (L2.CX P w) 4 (ga K "header_word") T.fd_header_word ["kind", "fields"] (sp_header_word (ga K "InvalidNumber") (ga K "InvalidName")) := by
  refine T.F_header_word.okX sc_header_word (fun vs H Q E h => ?_) (fun cdv A outer s H vs Q E hr h => ⟨_, (pss_cons (ps_expr (pe_call (ok_check_name T) (hr.mono (by decide)) (by rfl) T.mg_check_name T.F_check_name.kp T.b_check_name .nil (passes_call (takes_of rfl rfl rfl rfl) (fun _ _ _ _ h => h)) (pa_cons (pv 0) (pa_cons (pe_glob (v := .ref (ga K "KINDS")) rfl T.mg_KINDS rfl) pa_nil))))
    (pss_cons (ps_if (PW.pt (pw_or (pt_not (pt_val (pe_call (ok_is_within T) (hr.mono (by decide)) (by rfl) T.mg_is_within T.F_is_within.kp T.b_is_within .nil pass0 (pa_cons (pv 1) (pa_cons pe_int (pa_cons (pe_glob (v := .int (999999999)) rfl T.mg_MOST ⟨_, rfl⟩) pa_nil)))))) (pw_or1 (pt_not (pt_val (pe_call (ok_has_fields T) (hr.mono (by decide)) (by rfl) T.mg_has_fields T.F_has_fields.kp T.b_has_fields .nil pass0 (pa_cons (pv 0) (pa_cons (pv 1) pa_nil)))))))) (pss_one (ps_raise1 T.x1 (ok_init1 T) (hr.mono (by decide)) T.bI1 rfl (takes_of rfl rfl rfl rfl) (by rfl) T.mg_InvalidNumber (pv 1))) pss_nil)
    (pss_one (ps_ret (pe_op op_add (pe_op op_mul pe_int (pe_op op_add (pe_op op_mul pe_int (pv 1)) (pe_bm PySem.F.plainAttrs_tuple PySem.F.slot_tuple_index PySem.F.type_tuple_index mt_tup_index (pe_glob (v := .ref (ga K "KINDS")) rfl T.mg_KINDS rfl) (pa_cons (pv 0) pa_nil)))) pe_int))))), ?_⟩)
  · obtain ⟨k, n, s, s2, rfl, _⟩ := h
    rfl
  · obtain ⟨k, n, s, s2, rfl, hs, hs2, q2, q1⟩ := h
    walk_at "rd"
    refine ⟨k, s, rfl, hs, ?_, q2⟩
    rintro ⟨x, rfl, hx⟩
    obtain ⟨qe, qo⟩ := q1 x rfl hx
    refine ⟨n, _, _, s2, rfl, hs2, _, rfl, ?_⟩
    by_cases hw : within n 1 999999999 = false
    · rw [if_pos hw]; exact qe (.inl hw)
    · rw [if_neg hw]
      have hw' : within n 1 999999999 = true := by simpa using hw
      obtain ⟨i, rfl, h1, h2⟩ := within_int hw'
      refine ⟨x, i, rfl, _, rfl, ?_⟩
      by_cases hf : hasF x i = false
      · rw [if_pos hf]; exact qe (.inr ⟨i, rfl, hf⟩)
      · rw [if_neg hf]
        obtain ⟨j, j1, j2, j3⟩ := kinds_ix hx
        refine ⟨i, rfl, .inr (.inl ⟨rfl, T.sKd⟩), _, rfl, _, rfl, kinds, x, rfl, T.sK H, j, j1, j2, _, rfl, ?_⟩
        rw [j3]
        exact qo i rfl hw' (by simpa using hf)
end
end K42
set_option maxHeartbeats 4000000
namespace K42
open PySem PySem.Spec PyProof.Rows L2 FS
open He (ga ma)
local macro_rules | `(tactic| walk_at "rd") => `(tactic| simp only [tSeq, tIfS, tNext, tRet, tAsg, tDrop, tPar, gName, gTup, gCons, gNil, gSub, tAnd, tOr, tNot, tB, tTest, tIf, tAndV, tOrV, tNotV, tCB, tCons, tNil, tVar, tC, tOp, tUn, rU, rI, rI0, rEq, rNe, CMul, CDiv, CPow, tTup, tLst, tDNewK, rIsiN, rInt1, tChain, tCall, tRaise1, rIxT, rIxL, rIxA, rSetA, gTupA, rLenA, seqO, at0, at1, at2, ix0, ix1, ix2, upd_same, upd_upd,
  L2.start, List.map_cons, List.map_nil, List.length_cons, List.length_nil, List.cons_append, List.nil_append, List.append_nil, List.replicate_succ, List.replicate_zero, Nat.reduceAdd, Nat.reduceSub, List.set_cons_zero, List.set_cons_succ,
  List.getElem?_cons_zero, List.getElem?_cons_succ, Option.some.injEq, exists_eq_left', exists_eq_left, V.int.injEq, V.bl.injEq, V.str.injEq, V.ref.injEq, V.ty.injEq, List.cons.injEq, reduceCtorEq, false_and, exists_false, true_and, and_true, decide_eq_true_eq, Bool.not_eq_true', decide_eq_false_iff_not, exists_const, and_assoc, exists_and_left, Int.reducePow, Int.reduceLE, Int.reduceToNat, nab10, Int.reduceMul, Int.reduceSub, Int.reduceAdd, Nat.reducePow, Nat.reduceLT, Int.reduceNeg, Int.reduceLT, or_true, true_or, sizeLine_eq, Nat.reduceLeDiff, ne_eq, not_false_eq_true, tyN, isOf, scal, m_int, m_bool, m_str, m_tup, cxK, cxKn, String.reduceBEq, Bool.true_or, Bool.or_true, Bool.or_false, Bool.false_or, Bool.and_true, Bool.true_and, Bool.false_and, Bool.and_false, Bool.not_true, Bool.not_false, Bool.false_eq_true, ↓reduceIte, not_true_eq_false, not_false_eq_true])

/-! ### the well -/
def IsW (H : Hp) (w : Addr) : Prop := ∃ a m c : Int, H w = some (.lst [.int a, .int m, .int c])
theorem IsW.mk {H : Hp} {w : Addr} {a m c : Int} : IsW (upd H w (.lst [.int a, .int m, .int c])) w := ⟨a, m, c, upd_same⟩
theorem IsW.new {H : Hp} {w p : Addr} {o : HO} (h : IsW H w) (hp : H p = none) : IsW (upd H p o) w := by
  obtain ⟨a, m, c, hw⟩ := h
  exact ⟨a, m, c, by rw [upd_ne (ne_of_none hw hp)]; exact hw⟩
section
variable {P : Program} {w : World} {K : PySem.W.Frag} {mg : Str → Option Value} {base : Heap}
def sp_draw : Sp := fun vs H Q _ => ∃ (w : Addr) (many : Int), vs = [.ref w, .int many] ∧ IsW H w ∧ 0 < many ∧ many < 1073741824 ∧ ∀ r H', 0 ≤ r → r < many → IsW H' w → Fr w H H' → Q (.int r) H'
theorem ok__law_draw (T : Tx K mg) : FnOk P w K mg base CX0 1 (ga K "_law_draw") T.fd__law_draw ["_law_well_here", "_law_many"] sp_draw := by
  refine T.F__law_draw.ok sc__law_draw (fun vs H Q E h => ?_) (fun cdv A outer s H vs Q E hr h => ⟨_, (pss_cons (ps_if (pt_cmpR op_gt (pe_ix ix_at (pv 0) pe_int (fun _ _ => rfl)) pe_int (nomark _)) (pss_cons (ps_asg (pe_callB call_divmod (by rfl) T.n_divmod (by decide +kernel) (pa_cons (pe_ix ix_at (pv 0) pe_int (fun _ _ => rfl)) (pa_cons (pv 1) pa_nil))) (pg_tupA (n := 2) rfl (pgs_cons (pg_sub (pv 0) pe_int set_at) (pgs_cons (pg_name (i := 2) sc__law_draw.nd rfl (Or.inl rfl)) pgs_nil))))
    (pss_one (ps_ret (pv 2)))) pss_nil)
    (pss_cons (ps_asg (pe_op op_add (pe_ix ix_at (pv 0) pe_int (fun _ _ => rfl)) pe_int) (pg_sub (pv 0) pe_int set_at))
    (pss_cons (ps_set (i := 3) sc__law_draw.nd rfl (Or.inl rfl) (pe_op op_mod (pe_callTy call_int (by rfl) T.n_int (by decide +kernel) (pa_cons (pe_op op_add (pe_ix ix_at (pv 0) pe_int (fun _ _ => rfl)) (pe_op op_mul pe_int (pe_ix ix_at (pv 0) pe_int (fun _ _ => rfl)))) pa_nil)) pe_int))
    (pss_cons (ps_asg (pe_op op_mod (pe_callTy call_int (by rfl) T.n_int (by decide +kernel) (pa_cons (pe_op op_add (pe_op op_mul (pv 3) (pe_op op_add (pe_op op_mod (pe_callTy call_int (by rfl) T.n_int (by decide +kernel) (pa_cons (pv 3) pa_nil)) pe_int) pe_int)) (pe_op op_mul pe_int (pe_ix ix_at (pv 0) pe_int (fun _ _ => rfl)))) pa_nil)) pe_int) (pg_sub (pv 0) pe_int set_at))
    (pss_one (ps_ret (pe_op op_mod (pe_callTy call_int (by rfl) T.n_int (by decide +kernel) (pa_cons (pe_op op_fdiv (pe_ix ix_at (pv 0) pe_int (fun _ _ => rfl)) pe_int) pa_nil)) (pv 1)))))))), ?_⟩)
  · obtain ⟨w, many, rfl, _⟩ := h
    rfl
  · obtain ⟨w, many, rfl, ⟨a, m, c, hw⟩, m0, m1, q⟩ := h
    walk_at "rd"
    simp only [hw]
    walk_at "rd"
    by_cases h : 0 < a
    · rw [if_pos h]
      refine ⟨m0, m1, fun p hp => ?_⟩
      simp only [upd_ne (ne_of_none hw hp), hw]
      walk_at "rd"
      exact q _ _ (Int.emod_nonneg _ (by omega)) (Int.emod_lt_of_pos _ m0) IsW.mk ((Fr.new hp).trans Fr.upd)
    · rw [if_neg h]
      refine ⟨.inl ⟨by omega, by omega⟩, m0, q _ _ (Int.emod_nonneg _ (by omega)) (Int.emod_lt_of_pos _ m0) IsW.mk Fr.upd⟩
def sp_pick : Sp := fun vs H Q _ => ∃ (w t : Addr) (xs : List V), vs = [.ref w, .ref t] ∧ IsW H w ∧ H t = some (.tup xs) ∧ 0 < xs.length ∧ xs.length < 1000 ∧ ∀ x H', x ∈ xs → IsW H' w → Fr w H H' → Q x H'
theorem IsW.ne {H : Hp} {w t : Addr} {xs : List V} (h : IsW H w) (ht : H t = some (.tup xs)) : t ≠ w := fun e => by
  obtain ⟨_, _, _, hw⟩ := h
  rw [← e, ht] at hw
  cases hw
theorem at_mem {xs : List V} {r : Int} (h0 : 0 ≤ r) (h1 : r < xs.length) : ∃ x, atI xs r = some x ∧ x ∈ xs := by
  obtain ⟨j, rfl⟩ := Int.eq_ofNat_of_zero_le h0
  have hj : j < xs.length := by omega
  exact ⟨xs[j], atI_nat (List.getElem?_eq_getElem hj), List.getElem_mem hj⟩
theorem ok__law_pick (T : Tx K mg) : FnOk P w K mg base CX0 2 (ga K "_law_pick") T.fd__law_pick ["_law_well_here", "_law_some"] sp_pick := by
  refine T.F__law_pick.ok sc__law_pick (fun vs H Q E h => ?_) (fun cdv A outer s H vs Q E hr h => ⟨_, (pss_one (ps_ret (pe_ix ix_at (pv 1) (pe_call (ok__law_draw T) (hr.mono (by decide)) (by rfl) T.mg__law_draw T.F__law_draw.kp T.b__law_draw .nil pass0 (pa_cons (pv 0) (pa_cons (pe_callB call_lenA (by rfl) T.n_len (by decide +kernel) (pa_cons (pv 1) pa_nil)) pa_nil))) (fun _ _ => rfl)))), ?_⟩)
  · obtain ⟨w, t, xs, rfl, _⟩ := h
    rfl
  · obtain ⟨w, t, xs, rfl, hw, ht, l0, l1, q⟩ := h
    walk_at "rd"
    simp only [ht]
    refine ⟨w, _, rfl, hw, by omega, by omega, fun r H' r0 r1 hw' fr => ?_⟩
    have ht' := fr t _ (hw.ne ht) ht
    obtain ⟨x, ex, hx⟩ := at_mem r0 r1
    simp only [ht', ex]
    exact q x H' hx hw' fr
def sp_wide : Sp := fun vs H Q _ => ∃ (w : Addr), vs = [.ref w] ∧ IsW H w ∧ ∀ r H', 0 ≤ r → r ≤ 999999999 → IsW H' w → Fr w H H' → Q (.int r) H'
theorem ok__law_wide (T : Tx K mg) : FnOk P w K mg base CX0 2 (ga K "_law_wide") T.fd__law_wide ["_law_well_here"] sp_wide := by
  refine T.F__law_wide.ok sc__law_wide (fun vs H Q E h => ?_) (fun cdv A outer s H vs Q E hr h => ⟨_, (pss_cons (ps_set (i := 1) sc__law_wide.nd rfl (Or.inl rfl) (pe_call (ok__law_draw T) (hr.mono (by decide)) (by rfl) T.mg__law_draw T.F__law_draw.kp T.b__law_draw .nil pass0 (pa_cons (pv 0) (pa_cons pe_int pa_nil))))
    (pss_cons (ps_if (pt_cmpR op_lt (pv 1) pe_int (nomark _)) (pss_one (ps_ret (pe_op op_mul (pv 1) pe_int))) pss_nil)
    (pss_one (ps_ret (pe_ifExp (pt_cmpR op_eq (pv 1) pe_int (nomark _)) (pe_call (ok__law_draw T) (hr.mono (by decide)) (by rfl) T.mg__law_draw T.F__law_draw.kp T.b__law_draw .nil pass0 (pa_cons (pv 0) (pa_cons pe_int pa_nil))) (pe_op op_add (pe_op op_mul (pe_call (ok__law_draw T) (hr.mono (by decide)) (by rfl) T.mg__law_draw T.F__law_draw.kp T.b__law_draw .nil pass0 (pa_cons (pv 0) (pa_cons pe_int pa_nil))) pe_int) (pe_call (ok__law_draw T) (hr.mono (by decide)) (by rfl) T.mg__law_draw T.F__law_draw.kp T.b__law_draw .nil pass0 (pa_cons (pv 0) (pa_cons pe_int pa_nil))))))))), ?_⟩)
  · obtain ⟨w, rfl, _⟩ := h
    rfl
  · obtain ⟨w, rfl, hw, q⟩ := h
    walk_at "rd"
    refine ⟨w, _, rfl, hw, by decide, by decide, fun b H1 b0 b1 hw1 f1 => ?_⟩
    walk_at "rd"
    by_cases h2 : b < 2
    · rw [if_pos h2]
      exact q _ _ (by omega) (by omega) hw1 f1
    · rw [if_neg h2]
      by_cases h3 : b = 2
      · rw [if_pos h3]
        exact ⟨w, _, rfl, hw1, by decide, by decide, fun r H2 r0 r1 hw2 f2 => q _ _ r0 (by omega) hw2 (f1.trans f2)⟩
      · rw [if_neg h3]
        refine ⟨w, _, rfl, hw1, by decide, by decide, fun r H2 r0 r1 hw2 f2 => ⟨r, rfl, ?_⟩⟩
        refine ⟨w, _, rfl, hw2, by decide, by decide, fun r' H3 r0' r1' hw3 f3 => ⟨r', rfl, q _ _ (by omega) (by omega) hw3 ((f1.trans f2).trans f3)⟩⟩
def sp_any_word : Sp := fun vs H Q _ => ∃ (w : Addr), vs = [.ref w] ∧ IsW H w ∧ ∀ r H', IsW H' w → Fr w H H' → Q (.int r) H'
theorem ok__law_any_word (T : Tx K mg) : FnOk P w K mg base CX0 3 (ga K "_law_any_word") T.fd__law_any_word ["_law_well_here"] sp_any_word := by
  refine T.F__law_any_word.ok sc__law_any_word (fun vs H Q E h => ?_) (fun cdv A outer s H vs Q E hr h => ⟨_, (pss_cons (ps_set (i := 1) sc__law_any_word.nd rfl (Or.inl rfl) (pe_call (ok__law_draw T) (hr.mono (by decide)) (by rfl) T.mg__law_draw T.F__law_draw.kp T.b__law_draw .nil pass0 (pa_cons (pv 0) (pa_cons pe_int pa_nil))))
    (pss_cons (ps_if (pt_cmpR op_eq (pv 1) pe_int (nomark _)) (pss_cons (ps_set (i := 2) sc__law_any_word.nd rfl (Or.inl rfl) (pe_call (ok__law_pick T) (hr.mono (by decide)) (by rfl) T.mg__law_pick T.F__law_pick.kp T.b__law_pick .nil pass0 (pa_cons (pv 0) (pa_cons (pe_tup (pa_cons (pe_op op_mul pe_int (pe_op op_pow pe_int pe_int)) (pa_cons (pe_op op_sub pe_int (pe_op op_mul pe_int (pe_op op_pow pe_int pe_int))) (pa_cons (pe_op op_mul pe_int (pe_op op_pow pe_int pe_int)) (pa_cons pe_int (pa_cons pe_int (pa_cons pe_int (pa_cons (pe_op op_sub pe_int (pe_op op_mul pe_int (pe_op op_pow pe_int pe_int))) pa_nil)))))))) pa_nil))))
    (pss_one (ps_ret (pe_op op_sub (pe_op op_add (pv 2) (pe_call (ok__law_draw T) (hr.mono (by decide)) (by rfl) T.mg__law_draw T.F__law_draw.kp T.b__law_draw .nil pass0 (pa_cons (pv 0) (pa_cons pe_int pa_nil)))) pe_int)))) pss_nil)
    (pss_cons (ps_if (pt_cmpR op_eq (pv 1) pe_int (nomark _)) (pss_one (ps_ret (pe_call (ok__law_draw T) (hr.mono (by decide)) (by rfl) T.mg__law_draw T.F__law_draw.kp T.b__law_draw .nil pass0 (pa_cons (pv 0) (pa_cons pe_int pa_nil))))) pss_nil)
    (pss_cons (ps_set (i := 3) sc__law_any_word.nd rfl (Or.inl rfl) (pe_op op_add (pe_op op_mul (pe_call (ok__law_wide T) (hr.mono (by decide)) (by rfl) T.mg__law_wide T.F__law_wide.kp T.b__law_wide .nil pass0 (pa_cons (pv 0) pa_nil)) (pe_op op_add pe_int (pe_call (ok__law_draw T) (hr.mono (by decide)) (by rfl) T.mg__law_draw T.F__law_draw.kp T.b__law_draw .nil pass0 (pa_cons (pv 0) (pa_cons pe_int pa_nil))))) (pe_call (ok__law_draw T) (hr.mono (by decide)) (by rfl) T.mg__law_draw T.F__law_draw.kp T.b__law_draw .nil pass0 (pa_cons (pv 0) (pa_cons pe_int pa_nil)))))
    (pss_one (ps_ret (pe_ifExp (pt_cmpR op_eq (pv 1) pe_int (nomark _)) (pv 3) (pe_op op_sub pe_int (pv 3))))))))), ?_⟩)
  · obtain ⟨w, rfl, _⟩ := h
    rfl
  · obtain ⟨w, rfl, hw, q⟩ := h
    walk_at "rd"
    refine ⟨w, _, rfl, hw, by decide, by decide, fun b H1 b0 b1 hw1 f1 => ?_⟩
    walk_at "rd"
    by_cases h0 : b = 0
    · rw [if_pos h0]
      intro p hp
      have hwp : IsW (upd H1 p (.tup [.int 4000000000, .int (-4000000000), .int 32000000000, .int 0, .int 32, .int 64, .int (-32000000000)])) w := hw1.new hp
      refine ⟨w, p, _, rfl, hwp, upd_same, by decide, by decide, fun x H2 hx hw2 f2 => ?_⟩
      have hx' : ∃ i, x = V.int i := by
        simp only [List.mem_cons, List.not_mem_nil, or_false] at hx
        rcases hx with rfl | rfl | rfl | rfl | rfl | rfl | rfl <;> exact ⟨_, rfl⟩
      obtain ⟨i, rfl⟩ := hx'
      exact ⟨w, _, rfl, hw2, by decide, by decide, fun r H3 r0 r1 hw3 f3 => ⟨i, rfl, r, rfl, q _ _ hw3 (((f1.trans (Fr.new hp)).trans f2).trans f3)⟩⟩
    · rw [if_neg h0]
      by_cases h1 : b = 1
      · rw [if_pos h1]
        exact ⟨w, _, rfl, hw1, by decide, by decide, fun r H2 r0 r1 hw2 f2 => q _ _ hw2 (f1.trans f2)⟩
      · rw [if_neg h1]
        refine ⟨w, rfl, hw1, fun r H2 r0 r1 hw2 f2 => ?_⟩
        refine ⟨w, _, rfl, hw2, by decide, by decide, fun x H3 x0 x1 hw3 f3 => ⟨x, rfl, r, rfl, .inl ⟨by omega, by omega⟩, ?_⟩⟩
        refine ⟨w, _, rfl, hw3, by decide, by decide, fun y H4 y0 y1 hw4 f4 => ⟨y, rfl, ?_⟩⟩
        have f := ((f1.trans f2).trans f3).trans f4
        by_cases h2 : b = 2
        · rw [if_pos h2]; exact q _ _ hw4 f
        · rw [if_neg h2]; exact q _ _ hw4 f
/-! ### odd things: no numbers of the bounds -/
inductive OddV (H : Hp) : V → Prop
  | non : OddV H .non
  | bl (b : Bool) : OddV H (.bl b)
  | s1 : OddV H (.str "1")
  | t1 {a : Addr} (h : H a = some (.tup [.int 1])) : OddV H (.ref a)
  | l1 {a : Addr} (h : H a = some (.lst [.int 1])) : OddV H (.ref a)
  | far {i : Int} (h : i ≤ -1000000000 ∨ 1000000000 ≤ i) (h1 : -10000000000 ≤ i) (h2 : i ≤ 10000000000) : OddV H (.int i)
  | t0 {a : Addr} (h : H a = some (.tup [])) : OddV H (.ref a)
  | s0 : OddV H (.str "")
  | d0 {a : Addr} (h : H a = some (.dK [])) : OddV H (.ref a)
  | nest {a b : Addr} (h : H a = some (.lst [.int 0, .ref b])) (h2 : H b = some (.tup [.int 2])) : OddV H (.ref a)
theorem OddV.ty {H : Hp} {v : V} (h : OddV H v) : ∃ s, tyN H v = some s := by
  cases h with
  | t1 h => exact ⟨"tuple", by simp only [tyN, h]⟩
  | l1 h => exact ⟨"list", by simp only [tyN, h]⟩
  | t0 h => exact ⟨"tuple", by simp only [tyN, h]⟩
  | d0 h => exact ⟨"dict", by simp only [tyN, h]⟩
  | nest h _ => exact ⟨"list", by simp only [tyN, h]⟩
  | _ => exact ⟨_, rfl⟩
theorem OddV.out {H : Hp} {v : V} {lo hi : Int} (h : OddV H v) (h0 : -999999999 ≤ lo) (h1 : hi ≤ 999999999) : within v lo hi = false := by
  cases h with
  | @far i h _ _ =>
    unfold within
    rw [Bool.and_eq_false_iff, decide_eq_false_iff_not, decide_eq_false_iff_not]
    omega
  | _ => rfl
/-- what does not change the thing's objects -/
theorem OddV.keep {H H' : Hp} {v : V} (h : OddV H v) (k : ∀ b o, H b = some o → (∀ xs : List V, xs.length = 3 → o ≠ .lst xs) → H' b = some o) : OddV H' v := by
  cases h with
  | non => exact .non
  | bl b => exact .bl b
  | s1 => exact .s1
  | s0 => exact .s0
  | far h a b => exact .far h a b
  | t1 h => exact .t1 (k _ _ h fun xs _ z => nomatch z)
  | t0 h => exact .t0 (k _ _ h fun xs _ z => nomatch z)
  | d0 h => exact .d0 (k _ _ h fun xs _ z => nomatch z)
  | l1 h => exact .l1 (k _ _ h fun xs l z => by cases z; simp at l)
  | nest h h2 => exact .nest (k _ _ h fun xs l z => by cases z; simp at l) (k _ _ h2 fun xs _ z => nomatch z)
theorem OddV.fr {H H' : Hp} {v : V} {w : Addr} (h : OddV H v) (hw : IsW H w) (f : Fr w H H') : OddV H' v := h.keep fun b o e n => f b o (fun z => by
  obtain ⟨_, _, _, q⟩ := hw
  rw [← z, e] at q
  exact n _ rfl (Option.some.inj q)) e
theorem OddV.same {H H' : Hp} {v : V} (h : OddV H v) (f : Same H H') : OddV H' v := h.keep fun b o e _ => f b o e
def sp_odd : Sp := fun vs H Q _ => ∃ (w : Addr), vs = [.ref w] ∧ IsW H w ∧ ∀ v H', OddV H' v → IsW H' w → Fr w H H' → Q v H'
theorem ok__law_odd (T : Tx K mg) : FnOk P w K mg base CX0 4 (ga K "_law_odd") T.fd__law_odd ["_law_well_here"] sp_odd := by
  refine T.F__law_odd.ok sc__law_odd (fun vs H Q E h => ?_) (fun cdv A outer s H vs Q E hr h => ⟨_, (pss_cons (ps_set (i := 1) sc__law_odd.nd rfl (Or.inl rfl) (pe_op op_add pe_int (pe_op op_mul (pe_call (ok__law_draw T) (hr.mono (by decide)) (by rfl) T.mg__law_draw T.F__law_draw.kp T.b__law_draw .nil pass0 (pa_cons (pv 0) (pa_cons pe_int pa_nil))) (pe_call (ok__law_wide T) (hr.mono (by decide)) (by rfl) T.mg__law_wide T.F__law_wide.kp T.b__law_wide .nil pass0 (pa_cons (pv 0) pa_nil)))))
    (pss_one (ps_ret (pe_call (ok__law_pick T) (hr.mono (by decide)) (by rfl) T.mg__law_pick T.F__law_pick.kp T.b__law_pick .nil pass0 (pa_cons (pv 0) (pa_cons (pe_tup (pa_cons pe_non (pa_cons pe_bl (pa_cons pe_bl (pa_cons pe_str (pa_cons (pe_tup (pa_cons pe_int pa_nil)) (pa_cons (pe_lst (pa_cons pe_int pa_nil)) (pa_cons (pv 1) (pa_cons (pe_op op_sub pe_int (pv 1)) (pa_cons (pe_tup pa_nil) (pa_cons pe_str (pa_cons pe_dnewK (pa_cons (pe_lst (pa_cons pe_int (pa_cons (pe_tup (pa_cons pe_int pa_nil)) pa_nil))) pa_nil))))))))))))) pa_nil)))))), ?_⟩)
  · obtain ⟨w, rfl, _⟩ := h
    rfl
  · obtain ⟨w, rfl, hw, q⟩ := h
    walk_at "rd"
    refine ⟨w, _, rfl, hw, by decide, by decide, fun r H1 r0 r1 hw1 f1 => ?_⟩
    refine ⟨w, rfl, hw1, fun x H2 x0 x1 hw2 f2 => ?_⟩
    walk_at "rd"
    refine ⟨.inl ⟨by omega, by omega⟩, fun p1 n1 p2 n2 p3 n3 p4 n4 p5 n5 p6 n6 p7 n7 => ?_⟩
    obtain ⟨far, hfar⟩ : ∃ i, i = 1000000000 + r * x := ⟨_, rfl⟩
    rw [← hfar]
    have b0 : 0 ≤ r * x := Int.mul_nonneg r0 x0
    have b1 : r * x ≤ 2 * 999999999 := Int.mul_le_mul (by omega) x1 x0 (by decide)
    have s1 := same_upd (o := .tup [.int 1]) n1
    have e1 := upd_same (H := H2) (a := p1) (o := .tup [.int 1])
    generalize upd H2 p1 (.tup [.int 1]) = G1 at *
    have s2 := same_upd (o := .lst [.int 1]) n2
    have e2 := upd_same (H := G1) (a := p2) (o := .lst [.int 1])
    generalize upd G1 p2 (.lst [.int 1]) = G2 at *
    have s3 := same_upd (o := .tup []) n3
    have e3 := upd_same (H := G2) (a := p3) (o := .tup [])
    generalize upd G2 p3 (.tup []) = G3 at *
    have s4 := same_upd (o := .dK []) n4
    have e4 := upd_same (H := G3) (a := p4) (o := .dK [])
    generalize upd G3 p4 (.dK []) = G4 at *
    have s5 := same_upd (o := .tup [.int 2]) n5
    have e5 := upd_same (H := G4) (a := p5) (o := .tup [.int 2])
    generalize upd G4 p5 (.tup [.int 2]) = G5 at *
    have s6 := same_upd (o := .lst [.int 0, .ref p5]) n6
    have e6 := upd_same (H := G5) (a := p6) (o := .lst [.int 0, .ref p5])
    generalize upd G5 p6 (.lst [.int 0, .ref p5]) = G6 at *
    have s7 := same_upd (o := .tup [.non, .bl true, .bl false, .str "1", .ref p1, .ref p2, .int far, .int (0 - far), .ref p3, .str "", .ref p4, .ref p6]) n7
    have e7 := upd_same (H := G6) (a := p7) (o := .tup [.non, .bl true, .bl false, .str "1", .ref p1, .ref p2, .int far, .int (0 - far), .ref p3, .str "", .ref p4, .ref p6])
    generalize upd G6 p7 (.tup [.non, .bl true, .bl false, .str "1", .ref p1, .ref p2, .int far, .int (0 - far), .ref p3, .str "", .ref p4, .ref p6]) = G7 at *
    have s56 := s6.trans s7
    have s4_ := s5.trans s56
    have s3_ := s4.trans s4_
    have s2_ := s3.trans s3_
    have s1_ := s2.trans s2_
    have hw7 : IsW G7 w := by
      obtain ⟨a, m, c, e⟩ := hw2
      exact ⟨a, m, c, (s1.trans s1_) _ _ e⟩
    refine ⟨w, p7, _, rfl, hw7, e7, (by show 0 < 12; decide), (by show 12 < 1000; decide), fun v H3 hv hw3 f3 => q v H3 ?_ hw3 (((f1.trans f2).trans (Fr.same (s1.trans s1_))).trans f3)⟩
    refine OddV.fr ?_ hw7 f3
    simp only [List.mem_cons, List.not_mem_nil, or_false] at hv
    rcases hv with rfl | rfl | rfl | rfl | rfl | rfl | rfl | rfl | rfl | rfl | rfl | rfl
    · exact .non
    · exact .bl _
    · exact .bl _
    · exact .s1
    · exact .t1 (s1_ _ _ e1)
    · exact .l1 (s2_ _ _ e2)
    · exact .far (by omega) (by omega) (by omega)
    · exact .far (by omega) (by omega) (by omega)
    · exact .t0 (s3_ _ _ e3)
    · exact .s0
    · exact .d0 (s4_ _ _ e4)
    · exact .nest (s7 _ _ e6) (s56 _ _ e5)
end
end K42
set_option maxHeartbeats 4000000
namespace K42
open PySem PySem.Spec PyProof.Rows L2 FS
open He (ga ma)
local macro_rules | `(tactic| walk_at "rd") => `(tactic| simp only [tSeq, tIfS, tNext, tRet, tAsg, tDrop, tPar, gName, gTup, gCons, gNil, gSub, tAnd, tOr, tNot, tB, tTest, tIf, tAndV, tOrV, tNotV, tCB, tCons, tNil, tVar, tC, tOp, tUn, rU, rI, rI0, rEq, rNe, CMul, CDiv, CPow, tTup, tLst, tDNewK, rIsiN, rInt1, tChain, tCall, tRaise1, rIxT, rIxL, rIxA, rSetA, gTupA, rLenA, seqO, at0, at1, at2, ix0, ix1, ix2, upd_same, upd_upd,
  L2.start, List.map_cons, List.map_nil, List.length_cons, List.length_nil, List.cons_append, List.nil_append, List.append_nil, List.replicate_succ, List.replicate_zero, Nat.reduceAdd, Nat.reduceSub, List.set_cons_zero, List.set_cons_succ,
  List.getElem?_cons_zero, List.getElem?_cons_succ, Option.some.injEq, exists_eq_left', exists_eq_left, V.int.injEq, V.bl.injEq, V.str.injEq, V.ref.injEq, V.ty.injEq, List.cons.injEq, reduceCtorEq, false_and, exists_false, true_and, and_true, decide_eq_true_eq, Bool.not_eq_true', decide_eq_false_iff_not, exists_const, and_assoc, exists_and_left, Int.reducePow, Int.reduceLE, Int.reduceToNat, nab10, Int.reduceMul, Int.reduceSub, Int.reduceAdd, Nat.reducePow, Nat.reduceLT, Int.reduceNeg, Int.reduceLT, or_true, true_or, sizeLine_eq, Nat.reduceLeDiff, ne_eq, not_false_eq_true, tyN, isOf, scal, m_int, m_bool, m_str, m_tup, cxK, cxKn, String.reduceBEq, Bool.true_or, Bool.or_true, Bool.or_false, Bool.false_or, Bool.and_true, Bool.true_and, Bool.false_and, Bool.and_false, Bool.not_true, Bool.not_false, Bool.false_eq_true, ↓reduceIte, not_true_eq_false, not_false_eq_true])

section
variable {P : Program} {w : World} {K : PySem.W.Frag} {mg : Str → Option Value} {base : Heap}
/-! ### the law's own reading is the program's -/
theorem rd_pair {i : Int} (h : i % 4 = 3) (h2 : i / 4 = 17) : rdI i = some [.str "header", .str "pair", .int 2] := by
  unfold rdI
  rw [if_neg (by omega), if_neg (by omega), h2]
  exact if_neg (by decide +kernel)
theorem rd_box {i : Int} (h : i % 4 = 3) (h2 : i / 4 = 10) : rdI i = some [.str "header", .str "box", .int 1] := by
  unfold rdI
  rw [if_neg (by omega), if_neg (by omega), h2]
  exact if_neg (by decide +kernel)
theorem hasF_clo (n : Int) : hasF "closure" n = (decide (1 ≤ n) && decide (n ≤ 999999999)) := if_pos rfl
theorem hasF_pair (n : Int) : hasF "pair" n = decide (n = 2) := by
  unfold hasF
  rw [if_neg (by decide +kernel), if_pos rfl]
theorem hasF_box (n : Int) : hasF "box" n = decide (n = 1) := by
  unfold hasF
  rw [if_neg (by decide +kernel), if_neg (by decide +kernel)]
theorem kS0 : kindS 0 = "closure" := rfl
theorem kS1 : kindS 1 = "pair" := rfl
theorem kS2 : kindS 2 = "box" := rfl
theorem rd_clo {i : Int} (h : i % 4 = 3) (h8 : i / 4 % 8 = 0) (h0 : 0 < i / 4) (h1 : i / 4 < 8000000000) : rdI i = some [.str "header", .str "closure", .int (i / 4 / 8)] := by
  unfold rdI
  rw [if_neg (by omega), if_neg (by omega), h8, kS0, hasF_clo]
  refine if_neg ?_
  rintro (z | z | z)
  · omega
  · omega
  · rw [Bool.and_eq_false_iff, decide_eq_false_iff_not, decide_eq_false_iff_not] at z
    omega
theorem rd_none {i : Int} (h : i % 4 = 3) (h17 : i / 4 ≠ 17) (h10 : i / 4 ≠ 10) (hc : ¬ (i / 4 % 8 = 0 ∧ 0 < i / 4 ∧ i / 4 < 8000000000)) : rdI i = none := by
  unfold rdI
  rw [if_neg (by omega), if_neg (by omega)]
  refine if_pos ?_
  by_cases h0 : i / 4 < 0
  · exact .inl h0
  · by_cases h3 : 3 ≤ i / 4 % 8
    · exact .inr (.inl h3)
    · refine .inr (.inr ?_)
      rcases (show i / 4 % 8 = 0 ∨ i / 4 % 8 = 1 ∨ i / 4 % 8 = 2 by omega) with e | e | e <;> rw [e]
      · rw [kS0, hasF_clo, Bool.and_eq_false_iff, decide_eq_false_iff_not, decide_eq_false_iff_not]
        omega
      · rw [kS1, hasF_pair, decide_eq_false_iff_not]
        omega
      · rw [kS2, hasF_box, decide_eq_false_iff_not]
        omega
theorem ok__law_read (T : Tx K mg) : FnOk P w K mg base CX0 1 (ga K "_law_read") T.fd__law_read ["_law_word"] sp_read := by
  refine T.F__law_read.ok sc__law_read (fun vs H Q E h => ?_) (fun cdv A outer s H vs Q E hr h => ⟨_, (pss_cons (ps_if (PW.pt (pw_or (pt_not (pt_val (pe_callB call_isiN (by rfl) T.n_isinstance (by decide +kernel) (pa_cons (pv 0) (pa_cons (pe_bltn (v := .ty "int") (by rfl) T.n_int (by decide +kernel) rfl) pa_nil))))) (pw_or1 (pt_val (pe_callB call_isiN (by rfl) T.n_isinstance (by decide +kernel) (pa_cons (pv 0) (pa_cons (pe_bltn (v := .ty "bool") (by rfl) T.n_bool (by decide +kernel) rfl) pa_nil))))))) (pss_one (ps_ret pe_non)) pss_nil)
    (pss_cons (ps_par (i := 1) (j := 2) rfl sc__law_read.nd rfl rfl (by decide) rfl rfl (pa_cons (pe_op op_mod (pe_callTy call_int (by rfl) T.n_int (by decide +kernel) (pa_cons (pv 0) pa_nil)) pe_int) (pa_cons (pe_op op_fdiv (pv 0) pe_int) pa_nil)) (by rfl))
    (pss_cons (ps_if (pt_cmpR op_eq (pv 1) pe_int (nomark _)) (pss_one (ps_ret (pe_ifExp (pt_chain op_lt op_lt (pe_un un_neg (pe_op op_pow pe_int pe_int)) (pv 2) (pe_op op_pow pe_int pe_int)) (pe_tup (pa_cons pe_str (pa_cons (pv 2) pa_nil))) pe_non))) pss_nil)
    (pss_cons (ps_if (pt_cmpR op_lt (pv 1) pe_int (nomark _)) (pss_one (ps_ret (pe_ifExp (pt_chain op_le op_lt pe_int (pv 2) (pe_op op_pow pe_int pe_int)) (pe_tup (pa_cons (pe_ifExp (pt_cmpR op_eq (pv 1) pe_int (nomark _)) pe_str pe_str) (pa_cons (pv 2) pa_nil))) pe_non))) pss_nil)
    (pss_cons (ps_if (PW.pt (pw_or (pt_cmpR op_eq (pv 2) pe_int (nomark _)) (pw_or1 (pt_cmpR op_eq (pv 2) pe_int (nomark _))))) (pss_one (ps_ret (pe_tup (pa_cons pe_str (pa_cons (pe_ifExp (pt_cmpR op_eq (pv 2) pe_int (nomark _)) pe_str pe_str) (pa_cons (pe_ifExp (pt_cmpR op_eq (pv 2) pe_int (nomark _)) pe_int pe_int) pa_nil)))))) pss_nil)
    (pss_one (ps_ret (pe_ifExp (PW.pt (pw_and (pt_cmpR op_eq (pe_op op_mod (pe_callTy call_int (by rfl) T.n_int (by decide +kernel) (pa_cons (pv 2) pa_nil)) pe_int) pe_int (nomark _)) (pw_and1 (pt_chain op_lt op_lt pe_int (pv 2) (pe_op op_mul pe_int (pe_op op_pow pe_int pe_int)))))) (pe_tup (pa_cons pe_str (pa_cons pe_str (pa_cons (pe_op op_fdiv (pv 2) pe_int) pa_nil)))) pe_non)))))))), ?_⟩)
  · obtain ⟨v, s, rfl, _⟩ := h
    rfl
  · obtain ⟨v, s, rfl, hs, q1, q2⟩ := h
    cases v with
    | int i =>
      cases hs
      simp only [rd] at q1 q2
      walk_at "rd"
      by_cases h1 : i % 4 = 0
      · rw [if_pos h1]
        by_cases h2 : -1000000000 < i / 4
        · rw [if_pos h2]
          by_cases h3 : i / 4 < 1000000000
          · rw [if_pos h3]; exact q2 _ (by unfold rdI; rw [if_pos h1, if_pos (by omega)])
          · rw [if_neg h3]; exact q1 (by unfold rdI; rw [if_pos h1, if_neg (by omega)])
        · rw [if_neg h2]; exact q1 (by unfold rdI; rw [if_pos h1, if_neg (by omega)])
      · rw [if_neg h1]
        by_cases h4 : i % 4 < 3
        · rw [if_pos h4]
          by_cases h2 : 0 ≤ i / 4
          · rw [if_pos h2]
            by_cases h3 : i / 4 < 1000000000
            · rw [if_pos h3]
              by_cases h5 : i % 4 = 1
              · rw [if_pos h5]; exact q2 _ (by unfold rdI; rw [if_neg h1, if_pos h4, if_pos (by omega), if_pos h5])
              · rw [if_neg h5]; exact q2 _ (by unfold rdI; rw [if_neg h1, if_pos h4, if_pos (by omega), if_neg h5])
            · rw [if_neg h3]; exact q1 (by unfold rdI; rw [if_neg h1, if_pos h4, if_neg (by omega)])
          · rw [if_neg h2]; exact q1 (by unfold rdI; rw [if_neg h1, if_pos h4, if_neg (by omega)])
        · rw [if_neg h4]
          have h3 : i % 4 = 3 := by omega
          by_cases h17 : i / 4 = 17
          · simp only [if_pos h17]; exact q2 _ (rd_pair h3 h17)
          · simp only [if_neg h17]
            by_cases h10 : i / 4 = 10
            · rw [if_pos h10]; exact q2 _ (rd_box h3 h10)
            · rw [if_neg h10]
              by_cases h8 : i / 4 % 8 = 0
              · rw [if_pos h8]
                by_cases h0 : 0 < i / 4
                · rw [if_pos h0]
                  by_cases h9 : i / 4 < 8000000000
                  · rw [if_pos h9]; exact q2 _ (rd_clo h3 h8 h0 h9)
                  · rw [if_neg h9]; exact q1 (rd_none h3 h17 h10 (by omega))
                · rw [if_neg h0]; exact q1 (rd_none h3 h17 h10 (by omega))
              · rw [if_neg h8]; exact q1 (rd_none h3 h17 h10 (by omega))
    | ref a =>
      have h2 : isOf s "int" = false := by
        unfold tyN at hs
        dsimp only at hs
        split at hs <;> cases hs <;> decide
      exact ⟨_, rfl, s, hs, by decide, _, rfl, by rw [h2]; exact iteT (iteT (q1 rfl))⟩
    | _ => first | (cases hs; walk_at "rd"; exact q1 rfl) | cases hs
/-! ### _law_same: the same data, kinds and all -/
def scalar : V → Bool
  | .non => true
  | .bl _ => true
  | .int _ => true
  | .str _ => true
  | _ => false
def Eqd (H : Hp) : Nat → V → V → Prop
  | 0, x, y => x = y ∧ scalar y = true
  | n + 1, x, y => (x = y ∧ scalar y = true) ∨ ∃ a b xs ys, x = .ref a ∧ y = .ref b ∧ H a = some (.tup xs) ∧ H b = some (.tup ys) ∧ xs.length = ys.length ∧ ys.length < 1000 ∧ ∀ (i : Nat) u v, xs[i]? = some u → ys[i]? = some v → Eqd H n u v
theorem Eqd.same {H H' : Hp} (s : Same H H') : ∀ {n : Nat} {x y : V}, Eqd H n x y → Eqd H' n x y
  | 0, _, _, h => h
  | n + 1, _, _, .inl h => .inl h
  | n + 1, _, _, .inr ⟨a, b, xs, ys, e1, e2, h1, h2, hl, hz, h⟩ => .inr ⟨a, b, xs, ys, e1, e2, s _ _ h1, s _ _ h2, hl, hz, fun i u v hu hv => (h i u v hu hv).same s⟩
def sp_same (n : Nat) : Sp := fun vs H Q _ => ∃ x y, vs = [x, y] ∧ Eqd H n x y ∧ ∀ H', Same H H' → Q (.bl true) H'
theorem same_scalar {x y : V} (h : x = y ∧ scalar y = true) : ∃ s, tyN (fun _ => none) y = some s := by
  obtain ⟨rfl, h⟩ := h
  cases x <;> first | exact ⟨_, rfl⟩ | cases h
theorem ok__law_same (T : Tx K mg) : ∀ n, FnOk P w K mg base CX0 (n + 1) (ga K "_law_same") T.fd__law_same ["_law_told_here", "_law_due"] (sp_same n)
  | 0 => by
    have ok__law_same : FnOk P w K mg base CX0 0 (ga K "_law_same") T.fd__law_same ["_law_told_here", "_law_due"] (fun _ _ _ _ => False) := ⟨fun _ _ _ _ h => h.elim, fun _ _ _ _ _ _ _ _ _ _ _ _ _ h => h.elim⟩
    refine T.F__law_same.ok sc__law_same (fun vs H Q E h => ?_) (fun cdv A outer s H vs Q E hr h => ⟨_, (pss_cons (ps_if (pt_val (pe_callB call_isiN (by rfl) T.n_isinstance (by decide +kernel) (pa_cons (pv 1) (pa_cons (pe_bltn (v := .ty "tuple") (by rfl) T.n_tuple (by decide +kernel) rfl) pa_nil)))) (pss_one (ps_ret (pe_and (pe_callB call_isiN (by rfl) T.n_isinstance (by decide +kernel) (pa_cons (pv 0) (pa_cons (pe_bltn (v := .ty "tuple") (by rfl) T.n_tuple (by decide +kernel) rfl) pa_nil))) (pe_and (pe_cmpR op_eq (pe_callB call_lenA (by rfl) T.n_len (by decide +kernel) (pa_cons (pv 0) pa_nil)) (pe_callB call_lenA (by rfl) T.n_len (by decide +kernel) (pa_cons (pv 1) pa_nil)) (nomark _)) (pe_one (pe_callB (cr_all rfl) (by rfl) T.n_all (by decide +kernel) (pa_cons (pe_lc (own := [("_law_x", 2), ("_law_y", 3)]) (g := gTupA 2 (gCons (gName 2) (gCons (gName 3) gNil))) (tt := tYes) rfl sc__law_same.nd (RZ.pi_zipA (by rfl) T.n_zip (pa_cons (pv 0) (pa_cons (pv 1) pa_nil))) (blkOk_by (N := N__law_same) (sc := defScope s__law_same) (by decide +kernel)) (fun _ _ _ _ _ => (pg_tupA (n := 2) rfl (pgs_cons (pg_name (i := 2) sc__law_same.nd rfl (Or.inl rfl)) (pgs_cons (pg_name (i := 3) sc__law_same.nd rfl (Or.inl rfl)) pgs_nil)))) (fun _ _ _ _ _ => pts_nil) (fun _ _ _ _ _ => (pe_call ok__law_same hr (by rfl) T.mg__law_same T.F__law_same.kp T.b__law_same .nil pass0 (pa_cons (pv 2) (pa_cons (pv 3) pa_nil))))) pa_nil))))))) pss_nil)
    (pss_cons (ps_if (pt_cmpR op_isN (pv 1) pe_non (nomark _)) (pss_one (ps_ret (pe_cmpR op_isN (pv 0) pe_non (nomark _)))) pss_nil)
    (pss_cons (ps_if (pt_val (pe_callB call_isiN (by rfl) T.n_isinstance (by decide +kernel) (pa_cons (pv 1) (pa_cons (pe_bltn (v := .ty "bool") (by rfl) T.n_bool (by decide +kernel) rfl) pa_nil)))) (pss_one (ps_ret (pe_and (pe_callB call_isiN (by rfl) T.n_isinstance (by decide +kernel) (pa_cons (pv 0) (pa_cons (pe_bltn (v := .ty "bool") (by rfl) T.n_bool (by decide +kernel) rfl) pa_nil))) (pe_one (pe_cmpR op_eq (pv 0) (pv 1) (nomark _)))))) pss_nil)
    (pss_cons (ps_if (pt_val (pe_callB call_isiN (by rfl) T.n_isinstance (by decide +kernel) (pa_cons (pv 1) (pa_cons (pe_bltn (v := .ty "str") (by rfl) T.n_str (by decide +kernel) rfl) pa_nil)))) (pss_one (ps_ret (pe_and (pe_callB call_isiN (by rfl) T.n_isinstance (by decide +kernel) (pa_cons (pv 0) (pa_cons (pe_bltn (v := .ty "str") (by rfl) T.n_str (by decide +kernel) rfl) pa_nil))) (pe_one (pe_cmpR op_eq (pv 0) (pv 1) (nomark _)))))) pss_nil)
    (pss_one (ps_ret (pe_and (pe_callB call_isiN (by rfl) T.n_isinstance (by decide +kernel) (pa_cons (pv 0) (pa_cons (pe_bltn (v := .ty "int") (by rfl) T.n_int (by decide +kernel) rfl) pa_nil))) (pe_and (pe_not (pe_callB call_isiN (by rfl) T.n_isinstance (by decide +kernel) (pa_cons (pv 0) (pa_cons (pe_bltn (v := .ty "bool") (by rfl) T.n_bool (by decide +kernel) rfl) pa_nil)))) (pe_one (pe_cmpR op_eq (pv 0) (pv 1) (nomark _))))))))))), ?_⟩)
    · obtain ⟨x, y, rfl, _⟩ := h
      rfl
    · obtain ⟨x, y, rfl, ⟨rfl, hs⟩, q⟩ := h
      cases x with
      | ref a => cases hs
      | byt _ => cases hs
      | flt _ => cases hs
      | ty _ => cases hs
      | non => walk_at "rd"; exact q H (Same.refl H)
      | bl b => walk_at "rd"; exact q H (Same.refl H)
      | int b => walk_at "rd"; exact q H (Same.refl H)
      | str b => walk_at "rd"; exact q H (Same.refl H)
  | n + 1 => by
    have ok__law_same : FnOk P w K mg base CX0 (n + 1) (ga K "_law_same") T.fd__law_same ["_law_told_here", "_law_due"] (sp_same n) := ok__law_same T n
    refine T.F__law_same.ok sc__law_same (fun vs H Q E h => ?_) (fun cdv A outer s H vs Q E hr h => ⟨_, (pss_cons (ps_if (pt_val (pe_callB call_isiN (by rfl) T.n_isinstance (by decide +kernel) (pa_cons (pv 1) (pa_cons (pe_bltn (v := .ty "tuple") (by rfl) T.n_tuple (by decide +kernel) rfl) pa_nil)))) (pss_one (ps_ret (pe_and (pe_callB call_isiN (by rfl) T.n_isinstance (by decide +kernel) (pa_cons (pv 0) (pa_cons (pe_bltn (v := .ty "tuple") (by rfl) T.n_tuple (by decide +kernel) rfl) pa_nil))) (pe_and (pe_cmpR op_eq (pe_callB call_lenA (by rfl) T.n_len (by decide +kernel) (pa_cons (pv 0) pa_nil)) (pe_callB call_lenA (by rfl) T.n_len (by decide +kernel) (pa_cons (pv 1) pa_nil)) (nomark _)) (pe_one (pe_callB (cr_all rfl) (by rfl) T.n_all (by decide +kernel) (pa_cons (pe_lc (own := [("_law_x", 2), ("_law_y", 3)]) (g := gTupA 2 (gCons (gName 2) (gCons (gName 3) gNil))) (tt := tYes) rfl sc__law_same.nd (RZ.pi_zipA (by rfl) T.n_zip (pa_cons (pv 0) (pa_cons (pv 1) pa_nil))) (blkOk_by (N := N__law_same) (sc := defScope s__law_same) (by decide +kernel)) (fun _ _ _ _ _ => (pg_tupA (n := 2) rfl (pgs_cons (pg_name (i := 2) sc__law_same.nd rfl (Or.inl rfl)) (pgs_cons (pg_name (i := 3) sc__law_same.nd rfl (Or.inl rfl)) pgs_nil)))) (fun _ _ _ _ _ => pts_nil) (fun _ _ _ _ _ => (pe_call ok__law_same hr (by rfl) T.mg__law_same T.F__law_same.kp T.b__law_same .nil pass0 (pa_cons (pv 2) (pa_cons (pv 3) pa_nil))))) pa_nil))))))) pss_nil)
    (pss_cons (ps_if (pt_cmpR op_isN (pv 1) pe_non (nomark _)) (pss_one (ps_ret (pe_cmpR op_isN (pv 0) pe_non (nomark _)))) pss_nil)
    (pss_cons (ps_if (pt_val (pe_callB call_isiN (by rfl) T.n_isinstance (by decide +kernel) (pa_cons (pv 1) (pa_cons (pe_bltn (v := .ty "bool") (by rfl) T.n_bool (by decide +kernel) rfl) pa_nil)))) (pss_one (ps_ret (pe_and (pe_callB call_isiN (by rfl) T.n_isinstance (by decide +kernel) (pa_cons (pv 0) (pa_cons (pe_bltn (v := .ty "bool") (by rfl) T.n_bool (by decide +kernel) rfl) pa_nil))) (pe_one (pe_cmpR op_eq (pv 0) (pv 1) (nomark _)))))) pss_nil)
    (pss_cons (ps_if (pt_val (pe_callB call_isiN (by rfl) T.n_isinstance (by decide +kernel) (pa_cons (pv 1) (pa_cons (pe_bltn (v := .ty "str") (by rfl) T.n_str (by decide +kernel) rfl) pa_nil)))) (pss_one (ps_ret (pe_and (pe_callB call_isiN (by rfl) T.n_isinstance (by decide +kernel) (pa_cons (pv 0) (pa_cons (pe_bltn (v := .ty "str") (by rfl) T.n_str (by decide +kernel) rfl) pa_nil))) (pe_one (pe_cmpR op_eq (pv 0) (pv 1) (nomark _)))))) pss_nil)
    (pss_one (ps_ret (pe_and (pe_callB call_isiN (by rfl) T.n_isinstance (by decide +kernel) (pa_cons (pv 0) (pa_cons (pe_bltn (v := .ty "int") (by rfl) T.n_int (by decide +kernel) rfl) pa_nil))) (pe_and (pe_not (pe_callB call_isiN (by rfl) T.n_isinstance (by decide +kernel) (pa_cons (pv 0) (pa_cons (pe_bltn (v := .ty "bool") (by rfl) T.n_bool (by decide +kernel) rfl) pa_nil)))) (pe_one (pe_cmpR op_eq (pv 0) (pv 1) (nomark _))))))))))), ?_⟩)
    · obtain ⟨x, y, rfl, _⟩ := h
      rfl
    · obtain ⟨x, y, rfl, h, q⟩ := h
      rcases h with ⟨rfl, hs⟩ | ⟨a, b, xs, ys, rfl, rfl, ha, hb, hl, hz, h⟩
      · cases x with
        | ref a => cases hs
        | byt _ => cases hs
        | flt _ => cases hs
        | ty _ => cases hs
        | non => walk_at "rd"; exact q H (Same.refl H)
        | bl b => walk_at "rd"; exact q H (Same.refl H)
        | int b => walk_at "rd"; exact q H (Same.refl H)
        | str b => walk_at "rd"; exact q H (Same.refl H)
      · refine ⟨_, rfl, "tuple", by simp only [tyN, hb], by decide, _, rfl, iteT ?_⟩
        walk_at "rd"
        simp only [ha, hb]
        rw [if_pos (by rw [hl])]
        refine ⟨"tuple", rfl, iteT ?_⟩
        refine ⟨.ref a, rfl, .ref b, rfl, a, b, xs, ys, rfl, .inr ⟨.inl (.inl ha), .inl (.inl hb), fun D nD => ?_⟩⟩
        refine ⟨fun i m H' => m = ys.length - i ∧ i ≤ ys.length ∧ Same H H' ∧ H' D = some (.lst (List.replicate i (V.bl true))), ⟨_, rfl, Nat.zero_le _, same_upd nD, upd_same⟩, ?_⟩
        rintro i m H' ⟨rfl, hi, sm, hD⟩
        have ha' := sm _ _ ha
        have hb' := sm _ _ hb
        by_cases hlt : i < ys.length
        · have hx : xs[i]? = some (xs[i]'(by omega)) := List.getElem?_eq_getElem (by omega)
          have hy : ys[i]? = some ys[i] := List.getElem?_eq_getElem hlt
          refine .inr ⟨⟨xs, ys, _, _, .inl (.inl ha'), .inl (.inl hb'), hx, hy⟩, fun H2 => Same H H2 ∧ H2 D = some (.lst (List.replicate (i + 1) (V.bl true))), fun H2 hN => ⟨_, by omega, rfl, by omega, hN.1, hN.2⟩, ?_⟩
          rintro v H2 ⟨T2, x, y, rfl, nT, rfl, f1, f2⟩
          have e1 : x = xs[i]'(by omega) := Option.some.inj ((f1 _ (.inl (.inl ha'))).symm.trans hx)
          have e2 : y = ys[i] := Option.some.inj ((f2 _ (.inl (.inl hb'))).symm.trans hy)
          subst e1 e2
          have sT := same_upd (o := .tup [xs[i]'(by omega), ys[i]]) nT
          simp only [gTupA, upd_same]
          refine ⟨rfl, _, _, rfl, _, _, rfl, rfl, rfl, ?_⟩
          simp only [tYes, ↓reduceIte]
          refine ⟨_, rfl, _, rfl, _, _, rfl, ?_, fun H3 s3 => ?_⟩
          · exact (h i _ _ hx hy).same (sm.trans sT)
          · have hD3 := s3 _ _ (sT _ _ hD)
            refine ⟨_, hD3, by rw [List.length_replicate]; exact small1000 (by omega), fun b o e => ?_, ?_⟩
            · rw [upd_ne (ne_of_none e nD)]
              exact s3 _ _ (sT _ _ (sm _ _ e))
            · rw [List.replicate_succ' (n := i)]
        · refine .inl ⟨⟨xs, ys, .inl (.inl ha'), .inl (.inl hb'), .inr (by omega)⟩, D, List.replicate i true, rfl, ?_, ?_⟩
          · rw [List.map_replicate]
            exact .inl (.inl hD)
          · have e : (List.replicate i true).all id = true := by simp
            rw [e]
            exact q _ sm
/-! ### the well is made -/
theorem cut_ints (ns : List Int) (lo hi : Option Int) : ∃ ms : List Int, cutV (ns.map V.int) lo hi = ms.map V.int := by
  unfold cutV
  rw [← List.map_drop, ← List.map_take]
  exact ⟨_, rfl⟩
def sp_well (K : PySem.W.Frag) : Sp := fun vs H Q _ => ∃ (a : Addr) (ns : List Int) (t : Int), vs = [.ref a, .int t] ∧ SqL K H a (ns.map V.int) ∧ 0 ≤ t ∧ ∀ p H', Same H H' → H p = none → IsW H' p → Q (.ref p) H'
theorem ok__law_well (T : Tx K mg) : FnOk P w K mg base CX0 1 (ga K "_law_well") T.fd__law_well ["_law_script", "_law_turn"] (sp_well K) := by
  refine T.F__law_well.ok sc__law_well (fun vs H Q E h => ?_) (fun cdv A outer s H vs Q E hr h => ⟨_, (pss_cons (ps_set (i := 2) sc__law_well.nd rfl (Or.inl rfl) (pe_op op_add pe_int (pe_op op_mul pe_int (pv 1))))
    (pss_cons (ps_for PassesOwn.never rfl (pi_list (pe_slice sl_list (pv 0) po_none (po_some pe_int))) (pg_name (i := 3) sc__law_well.nd rfl (Or.inl rfl)) (pss_one (ps_set (i := 2) sc__law_well.nd rfl (Or.inl rfl) (pe_op op_mod (pe_callTy call_int (by rfl) T.n_int (by decide +kernel) (pa_cons (pe_op op_add (pe_op op_add (pe_op op_mul (pv 2) pe_int) (pe_op op_mod (pe_callTy call_int (by rfl) T.n_int (by decide +kernel) (pa_cons (pv 3) pa_nil)) pe_int)) pe_int) pa_nil)) pe_int))))
    (pss_cons (ps_set (i := 4) sc__law_well.nd rfl (Or.inl rfl) (pe_ifExp (pt_cmpR op_lt (pv 1) (pe_callB call_len_seq (by rfl) T.n_len (by decide +kernel) (pa_cons (pv 0) pa_nil)) (nomark _)) (pe_callTy call_int (by rfl) T.n_int (by decide +kernel) (pa_cons (pe_ix ix_list (pv 0) (pv 1) (fun _ _ => rfl)) pa_nil)) pe_int))
    (pss_cons (ps_set (i := 2) sc__law_well.nd rfl (Or.inl rfl) (pe_op op_mod (pe_callTy call_int (by rfl) T.n_int (by decide +kernel) (pa_cons (pe_op op_add (pe_op op_add (pe_op op_mul (pv 2) pe_int) (pe_op op_mul (pe_op op_mod (pe_callTy call_int (by rfl) T.n_int (by decide +kernel) (pa_cons (pv 4) pa_nil)) pe_int) pe_int)) pe_int) pa_nil)) pe_int))
    (pss_one (ps_ret (pe_lst (pa_cons (pe_ifExp (PW.pt (pw_or (pt_cmpR op_lt (pv 4) pe_int (nomark _)) (pw_or1 (pt_cmpR op_ge (pv 4) (pe_op op_pow pe_int pe_int) (nomark _))))) (pe_callB call_abs (by rfl) T.n_abs (by decide +kernel) (pa_cons (pv 4) pa_nil)) pe_int) (pa_cons (pv 2) (pa_cons pe_int pa_nil)))))))))), ?_⟩)
  · obtain ⟨a, ns, t, rfl, _⟩ := h
    rfl
  · obtain ⟨a, ns, t, rfl, hS, t0, q⟩ := h
    walk_at "rd"
    obtain ⟨ms, hms⟩ := cut_ints ns none (some 7)
    refine ⟨.ref a, rfl, 7, rfl, a, _, rfl, hS, fun c nc => ⟨c, rfl, ⟨_, .inl (.inl upd_same)⟩, ?_⟩⟩
    rw [hms]
    have sc := same_upd (o := .lst (ms.map V.int)) nc
    have ec := upd_same (H := H) (a := c) (o := .lst (ms.map V.int))
    generalize upd H c (.lst (ms.map V.int)) = G at *
    refine for_list (K := K) (a := c) (xs := ms.map V.int) (fun i σ H' => H' = G ∧ ∃ (m : Int) (y : Option V), σ = [some (.ref a), some (.int t), some (.int m), y, none]) ⟨rfl, _, _, rfl⟩ (fun i σ H' _ h => by rw [h.1]; exact .inl (.inl ec)) ?_ ?_
    · rintro i y σ H' hi ⟨rfl, m, y0, rfl⟩
      obtain ⟨z, hz, rfl⟩ : ∃ z, ms[i]? = some z ∧ y = V.int z := by
        rw [List.getElem?_map] at hi
        cases e : ms[i]? with
        | none => rw [e] at hi; cases hi
        | some z => rw [e] at hi; exact ⟨z, rfl, (Option.some.inj hi).symm⟩
      walk_at "rd"
      exact ⟨_, rfl⟩
    · rintro σ H' ⟨rfl, m, y, rfl⟩
      walk_at "rd"
      refine ⟨_, .inl (sc.seq hS), ?_⟩
      have fin : ∀ (x y z : Int) (p : Addr), H' p = none → Q (.ref p) (upd H' p (.lst [.int x, .int y, .int z])) := fun x y z p hp => q p _ (sc.trans (same_upd hp)) (sc.free hp) IsW.mk
      by_cases ht : t < ((ns.map V.int).length : Int)
      · rw [if_pos ht]
        obtain ⟨x, ex, hx⟩ := at_mem t0 ht
        obtain ⟨i, _, rfl⟩ := List.mem_map.mp hx
        refine ⟨_, sc.seq hS, _, ex, ?_⟩
        dsimp only
        by_cases h1 : i < 0
        · rw [if_pos h1]; exact fin _ _ _
        · rw [if_neg h1]
          by_cases h2 : 100000000000000 ≤ i
          · rw [if_pos h2]; exact fin _ _ _
          · rw [if_neg h2]; exact fin _ _ _
      · rw [if_neg ht]; exact fin _ _ _
end
end K42
set_option maxHeartbeats 4000000
namespace K42
open PySem PySem.Spec PyProof.Rows L2 FS
open He (ga ma)
local macro_rules | `(tactic| walk_at "rd") => `(tactic| simp only [tSeq, tIfS, tNext, tRet, tAsg, tDrop, tPar, gName, gTup, gCons, gNil, gSub, tAnd, tOr, tNot, tB, tTest, tIf, tAndV, tOrV, tNotV, tCB, tCons, tNil, tVar, tC, tOp, tUn, rU, rI, rI0, rEq, rNe, CMul, CDiv, CPow, tTup, tLst, tDNewK, rIsiN, rInt1, tChain, tCall, tRaise1, rIxT, rIxL, rIxA, rSetA, gTupA, rLenA, seqO, at0, at1, at2, ix0, ix1, ix2, upd_same, upd_upd,
  L2.start, List.map_cons, List.map_nil, List.length_cons, List.length_nil, List.cons_append, List.nil_append, List.append_nil, List.replicate_succ, List.replicate_zero, Nat.reduceAdd, Nat.reduceSub, List.set_cons_zero, List.set_cons_succ,
  List.getElem?_cons_zero, List.getElem?_cons_succ, Option.some.injEq, exists_eq_left', exists_eq_left, V.int.injEq, V.bl.injEq, V.str.injEq, V.ref.injEq, V.ty.injEq, List.cons.injEq, reduceCtorEq, false_and, exists_false, true_and, and_true, decide_eq_true_eq, Bool.not_eq_true', decide_eq_false_iff_not, exists_const, and_assoc, exists_and_left, Int.reducePow, Int.reduceLE, Int.reduceToNat, nab10, Int.reduceMul, Int.reduceSub, Int.reduceAdd, Nat.reducePow, Nat.reduceLT, Int.reduceNeg, Int.reduceLT, or_true, true_or, sizeLine_eq, Nat.reduceLeDiff, ne_eq, not_false_eq_true, tyN, isOf, scal, m_int, m_bool, m_str, m_tup, cxK, cxKn, String.reduceBEq, Bool.true_or, Bool.or_true, Bool.or_false, Bool.false_or, Bool.and_true, Bool.true_and, Bool.false_and, Bool.and_false, Bool.not_true, Bool.not_false, Bool.false_eq_true, ↓reduceIte, not_true_eq_false, not_false_eq_true])

/-! ### _law_told: what a call told, or the error's words -/
def Rep (K : PySem.W.Frag) (H : Hp) (v : V) (d : PyData) : Prop := ((Dp K H v d ∧ d.hasDict = false) ∨ ∃ a, v = .ref a ∧ H a = some (.dK []) ∧ d = .dict []) ∧ d.showable = true ∧ d.depth ≤ 10 ∧ ((∀ i, d ≠ .int i) → d.shown.length ≤ sizeLine)
def toldE (K : PySem.W.Frag) (Q : VK) : XK := fun cls d H => ∃ (C : Addr) (word : Str), ((C = ga K "InvalidNumber" ∧ word = "number") ∨ (C = ga K "InvalidName" ∧ word = "name")) ∧ cls = .ref C ∧
  ∃ (dd : Addr) (v : V) (dt : PyData), d = some dd ∧ H dd = some (.xd [("given", v)]) ∧ Rep K H v dt ∧ ∀ p, H p = none → Q (.ref p) (upd H p (.tup [.str word, .str dt.shown, .bl true]))
def TT2 (K : PySem.W.Frag) : (XK → Hp → VK → Prop) → Hp → VK → Prop := fun tl H Q => tl (toldE K Q) H (fun v H' => [V.str "told", v].length ≤ sizeLine ∧ ∀ p, H' p = none → Q (.ref p) (upd H' p (.tup [.str "told", v])))
theorem told_gives2 {X : Cx} {g : Addr} {cdg : Value} {q : Str} {k : Nat} (T : Tx X.K X.mg) (hgd : X.A.guards = some []) (hr : Room (k + 1) X.A) :
    LamX.GivesTo X N__law_told "_law_told" (defScope s__law_told) g cdg (defBody s__law_told) "_law_call" q (TT2 X.K) := by
  intro f c' s H Q tl act hc h
  have hr' := hr.deeper (envOfC "_law_told" (defScope s__law_told) s.heap.objs.size g cdg)
  have cr : ∀ a pn, CallR ((cxOf C8.CX0 X.prog X.w X.K X.mg X.base N__law_told "_law_told" (defScope s__law_told) g cdg X.A X.stack s H C8.E0).nox.suite a pn) (.builtin "repr") (rRepr X.K) := fun a pn => call_repr (X := (cxOf C8.CX0 X.prog X.w X.K X.mg X.base N__law_told "_law_told" (defScope s__law_told) g cdg X.A X.stack s H C8.E0).nox.suite a pn) hgd hr'.units
  refine ⟨_, pss_one (ps_try_asN (X := (cxOf C8.CX0 X.prog X.w X.K X.mg X.base N__law_told "_law_told" (defScope s__law_told) g cdg X.A X.stack s H C8.E0).nox) (i := 1) (n := "e")
      (tb := fun W D σ H => ∃ Ech : XK, (∀ cls d σ' H', Ech cls d H' → W cls d σ' H') ∧ σ[0]? = some (some (.ref f)) ∧ H c' = some (LamX.CodeO c' q) ∧ tl Ech H fun v H' => [V.str "told", v].length ≤ sizeLine ∧ ∀ p, H' p = none → D.rt (.ref p) (upd H' p (.tup [.str "told", v])))
      rfl rfl sc__law_told.nd rfl rfl LamX.takes0 (fun W pn xe tk _ => ?_)
      (HdsAs.cons (c := .ref (ga X.K "InvalidNumber")) ⟨by rfl, by decide, .inl T.mg_InvalidNumber⟩ (fun a oe cls d pn hz hf => pss_one (ps_ret (pe_tup (pa_cons pe_str (pa_cons
        (pe_callB (cr _ _) (by rfl) T.n_repr (by decide +kernel) (pa_cons (pe_xf T.x1.xf T.x1.no hz hf (pv 1)) pa_nil)) (pa_cons
        (pe_and (pe_callB (call_isD T.x1.ex hz hf) (by rfl) T.n_isinstance (by decide +kernel) (pa_cons (pv 1) (pa_cons (pe_glob (v := .ref (ga X.K "FormError")) rfl T.mg_FormError rfl) pa_nil)))
          (pe_one (pe_not (pe_callB (call_isD T.x1.ex hz hf) (by rfl) T.n_isinstance (by decide +kernel) (pa_cons (pv 1) (pa_cons (pe_glob (v := .ref (ga X.K "InvalidName")) rfl T.mg_InvalidName rfl) pa_nil)))))) pa_nil))))))
      (HdsAs.cons (c := .ref (ga X.K "InvalidName")) ⟨by rfl, by decide, .inl T.mg_InvalidName⟩ (fun a oe cls d pn hz hf => pss_one (ps_ret (pe_tup (pa_cons pe_str (pa_cons
        (pe_callB (cr _ _) (by rfl) T.n_repr (by decide +kernel) (pa_cons (pe_xf T.x2.xf T.x2.no hz hf (pv 1)) pa_nil)) (pa_cons
        (pe_callB (call_isD T.x2.ex hz hf) (by rfl) T.n_isinstance (by decide +kernel) (pa_cons (pv 1) (pa_cons (pe_glob (v := .ref (ga X.K "FormError")) rfl T.mg_FormError rfl) pa_nil))) pa_nil)))))) HdsAs.nil))), ?_⟩
  · refine ⟨fun pins s' σ H' D I h' => ?_⟩
    obtain ⟨Ech, hW, h1, h2, h3⟩ := h'
    exact PSs.run (pss_one (ps_ret (pe_tup (pa_cons pe_str (pa_cons (act W pn xe Ech _ _ tk hW) pa_nil))))) pins s' σ H' D I ⟨h1, h2, h3⟩
  · refine ⟨toldE X.K Q, fun cls d σ' H' he hl => ?_, rfl, hc, h⟩
    obtain ⟨C, word, hC, rfl, dd, v, dt, rfl, hx, ⟨r1, r2, r3, r4⟩, q⟩ := he
    have h1 : 1 < σ'.length := by rw [hl]; exact (by decide : 1 < N__law_told.length)
    have hs : ∀ x : Option V, (σ'.set 1 x)[1]? = some x := fun x => by rw [List.getElem?_set_self h1]
    rcases hC with ⟨rfl, rfl⟩ | ⟨rfl, rfl⟩
    · refine ⟨true, T.e11, fun _ a na => ?_, fun z => nomatch z⟩
      exact ⟨_, hs _, rfl, rfl, dd, _, v, rfl, hx, rfl, dt, r1, r2, r3, r4, _, hs _, _, _, dd, _, rfl, rfl, hx, rfl, T.k1F, true, rfl, iteT ⟨_, hs _, _, _, dd, _, rfl, rfl, hx, rfl, T.k12, false, rfl, by rw [sizeLine_eq]; exact (by decide : 3 ≤ 16777216), q⟩⟩
    · refine ⟨false, T.e21, (fun z => nomatch z), fun _ => ⟨true, T.e22, fun _ a na => ?_, fun z => nomatch z⟩⟩
      exact ⟨_, hs _, rfl, rfl, dd, _, v, rfl, hx, rfl, dt, r1, r2, r3, r4, _, hs _, _, _, dd, _, rfl, rfl, hx, rfl, T.k2F, by rw [sizeLine_eq]; exact (by decide : 3 ≤ 16777216), q⟩
end K42
set_option maxHeartbeats 4000000
namespace K42
open PySem PySem.Spec PyProof.Rows L2 FS
open He (ga ma)
local macro_rules | `(tactic| walk_at "rd") => `(tactic| simp only [tSeq, tIfS, tNext, tRet, tAsg, tDrop, tPar, gName, gTup, gCons, gNil, gSub, tAnd, tOr, tNot, tB, tTest, tIf, tAndV, tOrV, tNotV, tCB, tCons, tNil, tVar, tC, tOp, tUn, rU, rI, rI0, rEq, rNe, CMul, CDiv, CPow, tTup, tLst, tDNewK, rIsiN, rInt1, tChain, tCall, tRaise1, rIxT, rIxL, rIxA, rSetA, gTupA, rLenA, seqO, at0, at1, at2, ix0, ix1, ix2, upd_same, upd_upd,
  L2.start, List.map_cons, List.map_nil, List.length_cons, List.length_nil, List.cons_append, List.nil_append, List.append_nil, List.replicate_succ, List.replicate_zero, Nat.reduceAdd, Nat.reduceSub, List.set_cons_zero, List.set_cons_succ,
  List.getElem?_cons_zero, List.getElem?_cons_succ, Option.some.injEq, exists_eq_left', exists_eq_left, V.int.injEq, V.bl.injEq, V.str.injEq, V.ref.injEq, V.ty.injEq, List.cons.injEq, reduceCtorEq, false_and, exists_false, true_and, and_true, decide_eq_true_eq, Bool.not_eq_true', decide_eq_false_iff_not, exists_const, and_assoc, exists_and_left, Int.reducePow, Int.reduceLE, Int.reduceToNat, nab10, Int.reduceMul, Int.reduceSub, Int.reduceAdd, Nat.reducePow, Nat.reduceLT, Int.reduceNeg, Int.reduceLT, or_true, true_or, sizeLine_eq, Nat.reduceLeDiff, ne_eq, not_false_eq_true, tyN, isOf, scal, m_int, m_bool, m_str, m_tup, cxK, cxKn, String.reduceBEq, Bool.true_or, Bool.or_true, Bool.or_false, Bool.false_or, Bool.and_true, Bool.true_and, Bool.false_and, Bool.and_false, Bool.not_true, Bool.not_false, Bool.false_eq_true, ↓reduceIte, not_true_eq_false, not_false_eq_true])

section
variable {P : Program} {w : World} {K : PySem.W.Frag} {mg : Str → Option Value} {base : Heap}
/-! ### short roads through the promises -/
theorem word_ok {C : Addr} {lo hi i : Int} {f : Int → Int} {H : Hp} {Q : VK} {E : XK} (h0 : lo ≤ i) (h1 : i ≤ hi) (q : Q (.int (f i)) H) : sp_word C lo hi f [.int i] H Q E :=
  ⟨_, _, rfl, rfl, fun j e _ => (V.int.inj e) ▸ q, fun z => by
    have w : within (.int i) lo hi = true := by simp [within, h0, h1]
    rw [w] at z
    cases z⟩
theorem header_ok {C1 C2 : Addr} {x : Str} {i : Int} {H : Hp} {Q : VK} {E : XK} (hx : x ∈ kinds) (h0 : 1 ≤ i) (h1 : i ≤ 999999999) (hf : hasF x i = true) (q : Q (.int (4 * (8 * i + (if x = "closure" then 0 else if x = "pair" then 1 else 2)) + 3)) H) :
    sp_header_word C1 C2 [.str x, .int i] H Q E :=
  have w : within (.int i) 1 999999999 = true := by simp [within, h0, h1]
  ⟨_, _, _, _, rfl, rfl, rfl, fun z => absurd ⟨x, rfl, hx⟩ z, fun y e hy => by
    cases e
    refine ⟨fun z => ?_, fun j e _ _ => (V.int.inj e) ▸ q⟩
    rcases z with z | ⟨j, e, z⟩
    · rw [w] at z; cases z
    · cases e; rw [hf] at z; cases z⟩
def EqdL (H : Hp) (n : Nat) : List V → List V → Prop
  | [], [] => True
  | x :: xs, y :: ys => Eqd H n x y ∧ EqdL H n xs ys
  | _, _ => False
theorem EqdL.at_ {H : Hp} {n : Nat} : ∀ {xs ys : List V}, EqdL H n xs ys → xs.length = ys.length ∧ ∀ (i : Nat) u v, xs[i]? = some u → ys[i]? = some v → Eqd H n u v
  | [], [], _ => ⟨rfl, fun i u v h => by simp at h⟩
  | x :: xs, y :: ys, ⟨h1, h2⟩ => ⟨by rw [List.length_cons, List.length_cons, h2.at_.1], fun i u v hu hv => by
    cases i with
    | zero => cases hu; cases hv; exact h1
    | succ i => exact h2.at_.2 i u v hu hv⟩
  | [], _ :: _, h => h.elim
  | _ :: _, [], h => h.elim
theorem EqdL.tup {H : Hp} {n : Nat} {a b : Addr} {xs ys : List V} (h : EqdL H n xs ys) (ha : H a = some (.tup xs)) (hb : H b = some (.tup ys)) (hl : ys.length < 1000) : Eqd H (n + 1) (.ref a) (.ref b) :=
  .inr ⟨a, b, xs, ys, rfl, rfl, ha, hb, h.at_.1, hl, h.at_.2⟩
theorem Eqd.up {H : Hp} {n : Nat} {x : V} (h : scalar x = true) : Eqd H n x x := by
  cases n with
  | zero => exact ⟨rfl, h⟩
  | succ n => exact .inl ⟨rfl, h⟩
theorem EqdL.refl {H : Hp} {n : Nat} : ∀ {xs : List V}, (∀ x ∈ xs, scalar x = true) → EqdL H n xs xs
  | [], _ => trivial
  | x :: xs, h => ⟨.up (h x List.mem_cons_self), EqdL.refl fun y hy => h y (List.mem_cons_of_mem _ hy)⟩
/-- what a reading told -/
def RdV (H : Hp) (v u : V) : Prop := (rd v = none ∧ u = .non) ∨ ∃ xs p, rd v = some xs ∧ u = .ref p ∧ H p = some (.tup xs)
theorem RdV.same {H H' : Hp} {v u : V} (s : Same H H') : RdV H v u → RdV H' v u
  | .inl h => .inl h
  | .inr ⟨xs, p, h1, h2, h3⟩ => .inr ⟨xs, p, h1, h2, s _ _ h3⟩
theorem read_ok {v : V} {s : String} {H : Hp} {Q : VK} {E : XK} (hs : tyN H v = some s) (q : ∀ u H', Same H H' → RdV H' v u → Q u H') : sp_read [v] H Q E :=
  ⟨v, s, rfl, hs, fun e => q _ _ (Same.refl _) (.inl ⟨e, rfl⟩), fun xs e p np => q _ _ (same_upd np) (.inr ⟨xs, p, e, rfl, upd_same⟩)⟩
theorem rd_scal {v : V} {xs : List V} (h : rd v = some xs) : (∀ x ∈ xs, scalar x = true) ∧ xs.length < 1000 := by
  cases v with
  | int i =>
    simp only [rd] at h
    unfold rdI at h
    split at h
    · split at h
      · cases h
        exact ⟨fun x hx => by simp only [List.mem_cons, List.not_mem_nil, or_false] at hx; rcases hx with rfl | rfl <;> rfl, by show 2 < 1000; decide⟩
      · cases h
    · split at h
      · split at h
        · cases h
          exact ⟨fun x hx => by simp only [List.mem_cons, List.not_mem_nil, or_false] at hx; rcases hx with rfl | rfl <;> rfl, by show 2 < 1000; decide⟩
        · cases h
      · split at h
        · cases h
        · cases h
          exact ⟨fun x hx => by simp only [List.mem_cons, List.not_mem_nil, or_false] at hx; rcases hx with rfl | rfl | rfl <;> rfl, by show 3 < 1000; decide⟩
  | _ => cases h
theorem RdV.eqd {H : Hp} {v u1 u2 : V} (h1 : RdV H v u1) (h2 : RdV H v u2) : Eqd H 1 u1 u2 := by
  rcases h1 with ⟨e1, rfl⟩ | ⟨xs, p, e1, rfl, h1⟩ <;> rcases h2 with ⟨e2, rfl⟩ | ⟨ys, p', e2, rfl, h2⟩
  · exact .up rfl
  · rw [e1] at e2; cases e2
  · rw [e1] at e2; cases e2
  · cases e1.symm.trans e2
    exact (EqdL.refl (rd_scal e1).1).tup h1 h2 (rd_scal e1).2
theorem RdV.eqd' {H : Hp} {v u : V} {xs : List V} {p : Addr} (h1 : RdV H v u) (e : rd v = some xs) (h2 : H p = some (.tup xs)) : Eqd H 1 u (.ref p) := h1.eqd (.inr ⟨xs, p, e, rfl, h2⟩)
theorem same_ok {H : Hp} {n : Nat} {x y : V} {Q : VK} {E : XK} (h : Eqd H n x y) (q : ∀ H', Same H H' → Q (.bl true) H') : sp_same n [x, y] H Q E := ⟨x, y, rfl, h, q⟩
/-! ### the readings of the words that the writers make -/
theorem rd_number {n : Int} (h0 : -999999999 ≤ n) (h1 : n ≤ 999999999) : rd (.int (4 * n)) = some [.str "number", .int n] := by
  show rdI _ = _
  have e : 4 * n / 4 = n := by omega
  unfold rdI
  rw [if_pos (by omega), e, if_pos ⟨h0, h1⟩]
theorem rd_address {n : Int} (h0 : 0 ≤ n) (h1 : n ≤ 999999999) : rd (.int (4 * n + 1)) = some [.str "address", .int n] := by
  show rdI _ = _
  have e : (4 * n + 1) / 4 = n := by omega
  unfold rdI
  rw [if_neg (by omega), if_pos (by omega), e, if_pos ⟨h0, h1⟩, if_pos (by omega)]
theorem rd_mark {n : Int} (h0 : 0 ≤ n) (h1 : n ≤ 999999999) : rd (.int (4 * n + 2)) = some [.str "mark", .int n] := by
  show rdI _ = _
  have e : (4 * n + 2) / 4 = n := by omega
  unfold rdI
  rw [if_neg (by omega), if_pos (by omega), e, if_pos ⟨h0, h1⟩, if_neg (by omega)]
theorem rd_closure {n : Int} (h0 : 1 ≤ n) (h1 : n ≤ 999999999) : rd (.int (32 * n + 3)) = some [.str "header", .str "closure", .int n] := by
  show rdI _ = _
  have e := rd_clo (i := 32 * n + 3) (by omega) (by omega) (by omega) (by omega)
  rw [e, show (32 * n + 3) / 4 / 8 = n by omega]
theorem rd71 : rd (.int 71) = some [.str "header", .str "pair", .int 2] := rd_pair (by decide) (by decide)
theorem rd43 : rd (.int 43) = some [.str "header", .str "box", .int 1] := rd_box (by decide) (by decide)
theorem EqdL.two {H : Hp} {n : Nat} {x y x' y' : V} (h : Eqd H n x y) (h' : Eqd H n x' y') : EqdL H n [x, x'] [y, y'] := And.intro h (And.intro h' trivial)
theorem RdV.updD {H : Hp} {D : Addr} {acc : List V} {o : HO} {v u : V} (h : RdV H v u) (hD : H D = some (.lst acc)) : RdV (upd H D o) v u := by
  rcases h with h | ⟨xs, p, h1, h2, h3⟩
  · exact .inl h
  · refine .inr ⟨xs, p, h1, h2, ?_⟩
    rw [upd_ne fun z => by rw [z, hD] at h3; cases h3]
    exact h3
theorem new_at {H : Hp} {p : Addr} {o : HO} (h : H p = none) : ∃ G, G = upd H p o ∧ Same H G ∧ G p = some o := ⟨_, rfl, same_upd h, upd_same⟩
/-! ### what is right is told right -/
def sp_is_right : Sp := fun vs H Q _ => ∃ (w : Addr), vs = [.ref w] ∧ IsW H w ∧ ∀ H', IsW H' w → Fr w H H' → Q (.bl true) H'
theorem IsW.same {H H' : Hp} {w : Addr} (h : IsW H w) (s : Same H H') : IsW H' w := by
  obtain ⟨a, m, c, e⟩ := h
  exact ⟨a, m, c, s _ _ e⟩
theorem ok__law_is_right (T : Tx K mg) : FnOk P w K mg base CX0 5 (ga K "_law_is_right") T.fd__law_is_right ["_law_well_here"] sp_is_right := by
  refine T.F__law_is_right.ok sc__law_is_right (fun vs H Q E h => ?_) (fun cdv A outer s H vs Q E hr h => ⟨_, (pss_cons (ps_asg (pe_tup (pa_cons (pe_call (ok__law_wide T) (hr.mono (by decide)) (by rfl) T.mg__law_wide T.F__law_wide.kp T.b__law_wide .nil pass0 (pa_cons (pv 0) pa_nil)) (pa_cons (pe_call (ok__law_wide T) (hr.mono (by decide)) (by rfl) T.mg__law_wide T.F__law_wide.kp T.b__law_wide .nil pass0 (pa_cons (pv 0) pa_nil)) (pa_cons (pe_call (ok__law_wide T) (hr.mono (by decide)) (by rfl) T.mg__law_wide T.F__law_wide.kp T.b__law_wide .nil pass0 (pa_cons (pv 0) pa_nil)) (pa_cons (pe_callB (call_max2 rfl) (by rfl) T.n_max (by decide +kernel) (pa_cons pe_int (pa_cons (pe_call (ok__law_wide T) (hr.mono (by decide)) (by rfl) T.mg__law_wide T.F__law_wide.kp T.b__law_wide .nil pass0 (pa_cons (pv 0) pa_nil)) pa_nil))) pa_nil))))) (pg_tupA (n := 4) rfl (pgs_cons (pg_name (i := 1) sc__law_is_right.nd rfl (Or.inl rfl)) (pgs_cons (pg_name (i := 2) sc__law_is_right.nd rfl (Or.inl rfl)) (pgs_cons (pg_name (i := 3) sc__law_is_right.nd rfl (Or.inl rfl)) (pgs_cons (pg_name (i := 4) sc__law_is_right.nd rfl (Or.inl rfl)) pgs_nil))))))
    (pss_cons (ps_if (pt_cmpR op_eq (pe_call (ok__law_draw T) (hr.mono (by decide)) (by rfl) T.mg__law_draw T.F__law_draw.kp T.b__law_draw .nil pass0 (pa_cons (pv 0) (pa_cons pe_int pa_nil))) pe_int (nomark _)) (pss_one (ps_set (i := 1) sc__law_is_right.nd rfl (Or.inl rfl) (pe_op op_sub pe_int (pv 1)))) pss_nil)
    (pss_cons (ps_set (i := 5) sc__law_is_right.nd rfl (Or.inl rfl) (pe_tup (pa_cons (pe_op op_mul pe_int (pv 1)) (pa_cons (pe_op op_add (pe_op op_mul pe_int (pv 2)) pe_int) (pa_cons (pe_op op_add (pe_op op_mul pe_int (pv 3)) pe_int) (pa_cons (pe_op op_add (pe_op op_mul pe_int (pv 4)) pe_int) pa_nil))))))
    (pss_cons (ps_set (i := 6) sc__law_is_right.nd rfl (Or.inl rfl) (pe_tup (pa_cons (pe_call (ok_number_word T) (hr.mono (by decide)) (by rfl) T.mg_number_word T.F_number_word.kp T.b_number_word .nil passF (pa_cons (pv 1) pa_nil)) (pa_cons (pe_call (ok_address_word T) (hr.mono (by decide)) (by rfl) T.mg_address_word T.F_address_word.kp T.b_address_word .nil passF (pa_cons (pv 2) pa_nil)) (pa_cons (pe_call (ok_mark_word T) (hr.mono (by decide)) (by rfl) T.mg_mark_word T.F_mark_word.kp T.b_mark_word .nil passF (pa_cons (pv 3) pa_nil)) (pa_cons (pe_call (ok_header_word T) (hr.mono (by decide)) (by rfl) T.mg_header_word T.F_header_word.kp T.b_header_word .nil passF (pa_cons pe_str (pa_cons (pv 4) pa_nil))) pa_nil))))))
    (pss_cons (ps_if (PW.pt (pw_or (pt_not (pt_val (pe_call (ok__law_same T 2) (hr.mono (by decide)) (by rfl) T.mg__law_same T.F__law_same.kp T.b__law_same .nil pass0 (pa_cons (pv 6) (pa_cons (pv 5) pa_nil))))) (pw_or1 (pt_not (pt_val (pe_call (ok__law_same T 2) (hr.mono (by decide)) (by rfl) T.mg__law_same T.F__law_same.kp T.b__law_same .nil pass0 (pa_cons (pe_tup (pa_cons (pe_call (ok_header_word T) (hr.mono (by decide)) (by rfl) T.mg_header_word T.F_header_word.kp T.b_header_word .nil passF (pa_cons pe_str (pa_cons pe_int pa_nil))) (pa_cons (pe_call (ok_header_word T) (hr.mono (by decide)) (by rfl) T.mg_header_word T.F_header_word.kp T.b_header_word .nil passF (pa_cons pe_str (pa_cons pe_int pa_nil))) pa_nil))) (pa_cons (pe_tup (pa_cons pe_int (pa_cons pe_int pa_nil))) pa_nil)))))))) (pss_one (ps_ret pe_bl)) pss_nil)
    (pss_cons (ps_set (i := 6) sc__law_is_right.nd rfl (Or.inl rfl) (pe_callTy call_tuple_of (by rfl) T.n_tuple (by decide +kernel) (pa_cons (pe_lc (own := [("_law_word", 8)]) (g := gName 8) (tt := tYes) rfl sc__law_is_right.nd (pi_tup (pv 5)) (blkOk_by (N := N__law_is_right) (sc := defScope s__law_is_right) (by decide +kernel)) (fun _ _ _ _ _ => (pg_name (i := 8) sc__law_is_right.nd rfl (Or.inl rfl))) (fun _ _ _ _ _ => pts_nil) (fun _ _ _ _ _ => (pe_call (ok_read_word T) (hr.mono (by decide)) (by rfl) T.mg_read_word T.F_read_word.kp T.b_read_word .nil pass0 (pa_cons (pv 8) pa_nil)))) pa_nil)))
    (pss_cons (ps_set (i := 7) sc__law_is_right.nd rfl (Or.inl rfl) (pe_tup (pa_cons (pe_tup (pa_cons pe_str (pa_cons (pv 1) pa_nil))) (pa_cons (pe_tup (pa_cons pe_str (pa_cons (pv 2) pa_nil))) (pa_cons (pe_tup (pa_cons pe_str (pa_cons (pv 3) pa_nil))) (pa_cons (pe_tup (pa_cons pe_str (pa_cons pe_str (pa_cons (pv 4) pa_nil)))) pa_nil))))))
    (pss_cons (ps_if (pt_not (pt_val (pe_call (ok__law_same T 2) (hr.mono (by decide)) (by rfl) T.mg__law_same T.F__law_same.kp T.b__law_same .nil pass0 (pa_cons (pv 6) (pa_cons (pv 7) pa_nil))))) (pss_one (ps_ret pe_bl)) pss_nil)
    (pss_cons (ps_if (pt_not (pt_val (pe_call (ok__law_same T 2) (hr.mono (by decide)) (by rfl) T.mg__law_same T.F__law_same.kp T.b__law_same .nil pass0 (pa_cons (pe_tup (pa_cons (pe_call (ok_read_word T) (hr.mono (by decide)) (by rfl) T.mg_read_word T.F_read_word.kp T.b_read_word .nil pass0 (pa_cons pe_int pa_nil)) (pa_cons (pe_call (ok_read_word T) (hr.mono (by decide)) (by rfl) T.mg_read_word T.F_read_word.kp T.b_read_word .nil pass0 (pa_cons pe_int pa_nil)) pa_nil))) (pa_cons (pe_tup (pa_cons (pe_tup (pa_cons pe_str (pa_cons pe_str (pa_cons pe_int pa_nil)))) (pa_cons (pe_tup (pa_cons pe_str (pa_cons pe_str (pa_cons pe_int pa_nil)))) pa_nil))) pa_nil))))) (pss_one (ps_ret pe_bl)) pss_nil)
    (pss_cons (ps_par (i := 8) (j := 9) rfl sc__law_is_right.nd rfl rfl (by decide) rfl rfl (pa_cons (pe_call (ok__law_any_word T) (hr.mono (by decide)) (by rfl) T.mg__law_any_word T.F__law_any_word.kp T.b__law_any_word .nil pass0 (pa_cons (pv 0) pa_nil)) (pa_cons (pe_call (ok__law_odd T) (hr.mono (by decide)) (by rfl) T.mg__law_odd T.F__law_odd.kp T.b__law_odd .nil pass0 (pa_cons (pv 0) pa_nil)) pa_nil)) (by rfl))
    (pss_one (ps_ret (pe_call (ok__law_same T 2) (hr.mono (by decide)) (by rfl) T.mg__law_same T.F__law_same.kp T.b__law_same .nil pass0 (pa_cons (pe_tup (pa_cons (pe_call (ok_read_word T) (hr.mono (by decide)) (by rfl) T.mg_read_word T.F_read_word.kp T.b_read_word .nil pass0 (pa_cons (pv 8) pa_nil)) (pa_cons (pe_call (ok_read_word T) (hr.mono (by decide)) (by rfl) T.mg_read_word T.F_read_word.kp T.b_read_word .nil pass0 (pa_cons (pv 9) pa_nil)) pa_nil))) (pa_cons (pe_tup (pa_cons (pe_call (ok__law_read T) (hr.mono (by decide)) (by rfl) T.mg__law_read T.F__law_read.kp T.b__law_read .nil pass0 (pa_cons (pv 8) pa_nil)) (pa_cons (pe_call (ok__law_read T) (hr.mono (by decide)) (by rfl) T.mg__law_read T.F__law_read.kp T.b__law_read .nil pass0 (pa_cons (pv 9) pa_nil)) pa_nil))) pa_nil))))))))))))))), ?_⟩)
  · obtain ⟨w, rfl, _⟩ := h
    rfl
  · obtain ⟨w, rfl, hw, q⟩ := h
    walk_at "rd"
    refine ⟨w, rfl, hw, fun n0 H1 n0l n0h hw1 f1 => ⟨w, rfl, hw1, fun pl H2 pl0 plh hw2 f2 => ⟨w, rfl, hw2, fun mk H3 mk0 mkh hw3 f3 => ⟨w, rfl, hw3, fun fi H4 fi0 fih hw4 f4 => ⟨fi, rfl, fun p np => ?_⟩⟩⟩⟩⟩
    obtain ⟨fd, hfd⟩ : ∃ fd, fd = (if fi > 1 then fi else 1) := ⟨_, rfl⟩
    simp only [← hfd]
    have fd1 : 1 ≤ fd ∧ fd ≤ 999999999 := by rw [hfd]; split <;> omega
    have s4 := same_upd (o := .tup [.int n0, .int pl, .int mk, .int fd]) np
    generalize upd H4 p (.tup [.int n0, .int pl, .int mk, .int fd]) = G4 at *
    refine ⟨w, _, rfl, hw4.same s4, by decide, by decide, fun r H5 r0 r1 hw5 f5 => ⟨rfl, ?_⟩⟩
    have F5 : Fr w H H5 := ((((f1.trans f2).trans f3).trans f4).trans (.same s4)).trans f5
    have go : V.int r = V.int 0 ∨ ¬ V.int r = V.int 0 := Decidable.em _
    rcases go with h0 | h0
    · rw [if_pos h0]
      have b1 : -999999999 ≤ 0 - n0 ∧ 0 - n0 ≤ 999999999 := ⟨by omega, by omega⟩
      refine ⟨_, rfl, _, rfl, _, rfl, fun pw npw => ?_⟩
      generalize 0 - n0 = n at b1 ⊢
      have sw := same_upd (o := .tup [.int (4 * n), .int (4 * pl + 1), .int (4 * mk + 2), .int (32 * fd + 3)]) npw
      have ew := upd_same (H := H5) (a := pw) (o := .tup [.int (4 * n), .int (4 * pl + 1), .int (4 * mk + 2), .int (32 * fd + 3)])
      generalize upd H5 pw (.tup [.int (4 * n), .int (4 * pl + 1), .int (4 * mk + 2), .int (32 * fd + 3)]) = G5 at *
      refine word_ok b1.1 b1.2 (word_ok pl0 plh (word_ok mk0 mkh (header_ok (by decide +kernel) fd1.1 fd1.2 (by rw [hasF_clo]; simp [fd1]) ?_)))
      rw [if_pos rfl, show 4 * (8 * fd + 0) + 3 = 32 * fd + 3 by omega]
      intro pt npt
      have hsc : ∀ x ∈ [V.int (4 * n), .int (4 * pl + 1), .int (4 * mk + 2), .int (32 * fd + 3)], scalar x = true := fun x hx => by
        simp only [List.mem_cons, List.not_mem_nil, or_false] at hx
        rcases hx with rfl | rfl | rfl | rfl <;> rfl
      refine same_ok ((EqdL.refl (n := 1) hsc).tup upd_same (same_upd npt _ _ ew) (by show 4 < 1000; decide)) fun H6 s6 => ⟨true, rfl, ?_⟩
      have S6 := (same_upd npt).trans s6
      clear s6
      rw [if_neg (by decide)]
      refine header_ok (by decide +kernel) (by decide) (by decide) (by rw [hasF_pair]; decide) (header_ok (by decide +kernel) (by decide) (by decide) (by rw [hasF_box]; decide) fun p2 n2 p3 n3 => ?_)
      rw [show (4 * (8 * 2 + if ("pair" : Str) = "closure" then 0 else if ("pair" : Str) = "pair" then 1 else 2) + 3 : Int) = 71 by rw [if_neg (by decide +kernel), if_pos rfl]; rfl] at n3 ⊢
      rw [show (4 * (8 * 1 + if ("box" : Str) = "closure" then 0 else if ("box" : Str) = "pair" then 1 else 2) + 3 : Int) = 43 by rw [if_neg (by decide +kernel), if_neg (by decide +kernel)]; rfl] at n3 ⊢
      have hsc2 : ∀ x ∈ [V.int 71, .int 43], scalar x = true := fun x hx => by
        simp only [List.mem_cons, List.not_mem_nil, or_false] at hx
        rcases hx with rfl | rfl <;> rfl
      refine same_ok ((EqdL.refl (n := 1) hsc2).tup (same_upd n3 _ _ upd_same) upd_same (by show 2 < 1000; decide)) fun H7 s7 => ⟨true, rfl, ?_⟩
      have S7 := ((S6.trans (same_upd n2)).trans (same_upd n3)).trans s7
      clear s7
      rw [if_neg (by decide)]
      have e7 := S7 _ _ ew
      refine ⟨.ref pw, rfl, pw, rfl, ⟨_, .inl (.inl e7)⟩, fun D nD => ?_⟩
      refine lc_tup (xs := [.int (4 * n), .int (4 * pl + 1), .int (4 * mk + 2), .int (32 * fd + 3)]) (fun i H' => ∃ ps : List V, ps.length = i ∧ H' D = some (.lst ps) ∧ (∀ (j : Nat) u, ps[j]? = some u → ∃ v, [V.int (4 * n), .int (4 * pl + 1), .int (4 * mk + 2), .int (32 * fd + 3)][j]? = some v ∧ RdV H' v u) ∧ Same H7 H')
        ⟨[], rfl, upd_same, fun j u h => by simp at h, same_upd nD⟩ (fun i H' _ ⟨_, _, _, _, sm⟩ => .inl (.inl (sm _ _ e7))) ?_ ?_
      · rintro i x H' hx ⟨ps, hl, hD, hps, sm⟩
        have hi : i < 4 := by
          rcases i with _ | _ | _ | _ | i <;> first | decide | (simp at hx)
        have hx' : tyN H' x = some "int" := by
          rcases i with _ | _ | _ | _ | i <;> first | (cases hx; rfl) | (simp at hx)
        refine ⟨rfl, ?_⟩
        simp only [tYes, ↓reduceIte]
        refine ⟨x, rfl, ?_⟩
        simp only [tNil, List.append_nil]
        refine read_ok hx' fun u H2 s2 ru => ?_
        have hD2 := s2 _ _ hD
        refine ⟨ps, hD2, (by rw [sizeLine_eq]; omega), _, (by rw [List.length_append, hl]; rfl), upd_same, fun j u' hj => ?_, fun b o e => ?_⟩
        · rcases Nat.lt_or_ge j ps.length with hj' | hj'
          · rw [List.getElem?_append_left hj'] at hj
            obtain ⟨v, hv, r⟩ := hps j u' hj
            exact ⟨v, hv, (r.same s2).updD hD2⟩
          · rw [List.getElem?_append_right hj'] at hj
            obtain ⟨k, hk⟩ : ∃ k, j - ps.length = k := ⟨_, rfl⟩
            rw [hk] at hj
            cases k with
            | zero =>
              cases hj
              exact ⟨x, by rw [show j = i by omega]; exact hx, ru.updD hD2⟩
            | succ k => simp at hj
        · rw [upd_ne (ne_of_none e nD)]
          exact s2 _ _ (sm _ _ e)
      · rintro H8 ⟨ps, hl, hD, hps, sm⟩
        refine ⟨D, rfl, ps, .inl ⟨.inl (.inl hD), fun l nl => ?_⟩⟩
        obtain ⟨J0, h0', j0, k0⟩ := new_at (o := .tup ps) nl
        rw [← h0']
        intro q1 m1
        obtain ⟨J1, h1', j1, k1⟩ := new_at (o := .tup [.str "number", .int n]) m1
        rw [← h1']
        intro q2 m2
        obtain ⟨J2, h2', j2, k2⟩ := new_at (o := .tup [.str "address", .int pl]) m2
        rw [← h2']
        intro q3 m3
        obtain ⟨J3, h3', j3, k3⟩ := new_at (o := .tup [.str "mark", .int mk]) m3
        rw [← h3']
        intro q4 m4
        obtain ⟨J4, h4', j4, k4⟩ := new_at (o := .tup [.str "header", .str "closure", .int fd]) m4
        rw [← h4']
        intro qd md
        obtain ⟨J5, h5', j5, k5⟩ := new_at (o := .tup [.ref q1, .ref q2, .ref q3, .ref q4]) md
        rw [← h5']
        have J45 := j5
        have J35 := j4.trans J45
        have J25 := j3.trans J35
        have J15 := j2.trans J25
        have J05 := j1.trans J15
        refine same_ok (.inr ⟨l, qd, ps, _, rfl, rfl, J05 _ _ k0, k5, hl, by show 4 < 1000; decide, fun i u v hu hv => ?_⟩) fun L0 sL0 => ⟨true, rfl, ?_⟩
        · obtain ⟨x, hx, hr⟩ := hps i u hu
          have hr := hr.same (j0.trans J05)
          rcases i with _ | _ | _ | _ | i
          · cases hx; cases hv
            exact hr.eqd' (rd_number b1.1 b1.2) (J15 _ _ k1)
          · cases hx; cases hv
            exact hr.eqd' (rd_address pl0 plh) (J25 _ _ k2)
          · cases hx; cases hv
            exact hr.eqd' (rd_mark mk0 mkh) (J35 _ _ k3)
          · cases hx; cases hv
            exact hr.eqd' (rd_closure fd1.1 fd1.2) (J45 _ _ k4)
          · simp at hv
        rw [if_neg (by decide)]
        have S9 := (((sw.trans S7).trans sm).trans (j0.trans J05)).trans sL0
        refine read_ok rfl fun u1 L1 t1 r1' => read_ok rfl fun u2 L2 t2 r2' => fun a1 n1 => ?_
        obtain ⟨M1, g1', g1, i1⟩ := new_at (o := .tup [u1, u2]) n1
        rw [← g1']
        intro a2 n2'
        obtain ⟨M2, g2', g2, i2⟩ := new_at (o := .tup [.str "header", .str "pair", .int 2]) n2'
        rw [← g2']
        intro a3 n3'
        obtain ⟨M3, g3', g3, i3⟩ := new_at (o := .tup [.str "header", .str "box", .int 1]) n3'
        rw [← g3']
        intro a4 n4'
        obtain ⟨M4, g4', g4, i4⟩ := new_at (o := .tup [.ref a2, .ref a3]) n4'
        rw [← g4']
        have M24 := g3.trans g4
        have M14 := g2.trans M24
        refine same_ok (EqdL.tup (n := 1) (.two ((((r1'.same t2).same g1).same M14).eqd' rd71 (M24 _ _ i2)) (((r2'.same g1).same M14).eqd' rd43 (g4 _ _ i3))) (M14 _ _ i1) i4 (by show 2 < 1000; decide)) fun L3 sL3 => ⟨true, rfl, ?_⟩
        rw [if_neg (by decide)]
        have S10 := ((((S9.trans t1).trans t2).trans g1).trans M14).trans sL3
        refine ⟨w, rfl, hw5.same S10, fun wd L4 hwL4 f6 => ⟨w, rfl, hwL4, fun ov L5 hov hwL5 f7 => ?_⟩⟩
        obtain ⟨ty, hty⟩ := hov.ty
        refine read_ok rfl fun u3 L6 t6 r3' => ?_
        obtain ⟨ty2, hty2⟩ := (hov.same t6).ty
        refine read_ok hty2 fun u4 L7 t7 r4' => fun b1' o1 => ?_
        obtain ⟨N1, y1', y1, z1⟩ := new_at (o := .tup [u3, u4]) o1
        rw [← y1']
        refine read_ok rfl fun u5 L8 t8 r5' => ?_
        obtain ⟨ty3, hty3⟩ := ((((hov.same t6).same t7).same y1).same t8).ty
        refine read_ok hty3 fun u6 L9 t9 r6' => fun b2' o2 => ?_
        obtain ⟨N2, y2', y2, z2⟩ := new_at (o := .tup [u5, u6]) o2
        rw [← y2']
        have S11 := (t8.trans t9).trans y2
        refine same_ok (EqdL.tup (n := 1) (.two ((((r3'.same t7).same y1).same S11).eqd ((r5'.same t9).same y2)) (((r4'.same y1).same S11).eqd (r6'.same y2))) (S11 _ _ z1) z2 (by show 2 < 1000; decide)) fun L10 s10 => ?_
        have S12 := (((t6.trans t7).trans y1).trans S11).trans s10
        exact q _ (hwL5.same S12) ((((F5.trans (.same S10)).trans f6).trans f7).trans (.same S12))
    · rw [if_neg h0]
      have b1 : -999999999 ≤ n0 ∧ n0 ≤ 999999999 := ⟨by omega, by omega⟩
      refine ⟨_, rfl, _, rfl, _, rfl, fun pw npw => ?_⟩
      generalize n0 = n at b1 ⊢
      have sw := same_upd (o := .tup [.int (4 * n), .int (4 * pl + 1), .int (4 * mk + 2), .int (32 * fd + 3)]) npw
      have ew := upd_same (H := H5) (a := pw) (o := .tup [.int (4 * n), .int (4 * pl + 1), .int (4 * mk + 2), .int (32 * fd + 3)])
      generalize upd H5 pw (.tup [.int (4 * n), .int (4 * pl + 1), .int (4 * mk + 2), .int (32 * fd + 3)]) = G5 at *
      refine word_ok b1.1 b1.2 (word_ok pl0 plh (word_ok mk0 mkh (header_ok (by decide +kernel) fd1.1 fd1.2 (by rw [hasF_clo]; simp [fd1]) ?_)))
      rw [if_pos rfl, show 4 * (8 * fd + 0) + 3 = 32 * fd + 3 by omega]
      intro pt npt
      have hsc : ∀ x ∈ [V.int (4 * n), .int (4 * pl + 1), .int (4 * mk + 2), .int (32 * fd + 3)], scalar x = true := fun x hx => by
        simp only [List.mem_cons, List.not_mem_nil, or_false] at hx
        rcases hx with rfl | rfl | rfl | rfl <;> rfl
      refine same_ok ((EqdL.refl (n := 1) hsc).tup upd_same (same_upd npt _ _ ew) (by show 4 < 1000; decide)) fun H6 s6 => ⟨true, rfl, ?_⟩
      have S6 := (same_upd npt).trans s6
      clear s6
      rw [if_neg (by decide)]
      refine header_ok (by decide +kernel) (by decide) (by decide) (by rw [hasF_pair]; decide) (header_ok (by decide +kernel) (by decide) (by decide) (by rw [hasF_box]; decide) fun p2 n2 p3 n3 => ?_)
      rw [show (4 * (8 * 2 + if ("pair" : Str) = "closure" then 0 else if ("pair" : Str) = "pair" then 1 else 2) + 3 : Int) = 71 by rw [if_neg (by decide +kernel), if_pos rfl]; rfl] at n3 ⊢
      rw [show (4 * (8 * 1 + if ("box" : Str) = "closure" then 0 else if ("box" : Str) = "pair" then 1 else 2) + 3 : Int) = 43 by rw [if_neg (by decide +kernel), if_neg (by decide +kernel)]; rfl] at n3 ⊢
      have hsc2 : ∀ x ∈ [V.int 71, .int 43], scalar x = true := fun x hx => by
        simp only [List.mem_cons, List.not_mem_nil, or_false] at hx
        rcases hx with rfl | rfl <;> rfl
      refine same_ok ((EqdL.refl (n := 1) hsc2).tup (same_upd n3 _ _ upd_same) upd_same (by show 2 < 1000; decide)) fun H7 s7 => ⟨true, rfl, ?_⟩
      have S7 := ((S6.trans (same_upd n2)).trans (same_upd n3)).trans s7
      clear s7
      rw [if_neg (by decide)]
      have e7 := S7 _ _ ew
      refine ⟨.ref pw, rfl, pw, rfl, ⟨_, .inl (.inl e7)⟩, fun D nD => ?_⟩
      refine lc_tup (xs := [.int (4 * n), .int (4 * pl + 1), .int (4 * mk + 2), .int (32 * fd + 3)]) (fun i H' => ∃ ps : List V, ps.length = i ∧ H' D = some (.lst ps) ∧ (∀ (j : Nat) u, ps[j]? = some u → ∃ v, [V.int (4 * n), .int (4 * pl + 1), .int (4 * mk + 2), .int (32 * fd + 3)][j]? = some v ∧ RdV H' v u) ∧ Same H7 H')
        ⟨[], rfl, upd_same, fun j u h => by simp at h, same_upd nD⟩ (fun i H' _ ⟨_, _, _, _, sm⟩ => .inl (.inl (sm _ _ e7))) ?_ ?_
      · rintro i x H' hx ⟨ps, hl, hD, hps, sm⟩
        have hi : i < 4 := by
          rcases i with _ | _ | _ | _ | i <;> first | decide | (simp at hx)
        have hx' : tyN H' x = some "int" := by
          rcases i with _ | _ | _ | _ | i <;> first | (cases hx; rfl) | (simp at hx)
        refine ⟨rfl, ?_⟩
        simp only [tYes, ↓reduceIte]
        refine ⟨x, rfl, ?_⟩
        simp only [tNil, List.append_nil]
        refine read_ok hx' fun u H2 s2 ru => ?_
        have hD2 := s2 _ _ hD
        refine ⟨ps, hD2, (by rw [sizeLine_eq]; omega), _, (by rw [List.length_append, hl]; rfl), upd_same, fun j u' hj => ?_, fun b o e => ?_⟩
        · rcases Nat.lt_or_ge j ps.length with hj' | hj'
          · rw [List.getElem?_append_left hj'] at hj
            obtain ⟨v, hv, r⟩ := hps j u' hj
            exact ⟨v, hv, (r.same s2).updD hD2⟩
          · rw [List.getElem?_append_right hj'] at hj
            obtain ⟨k, hk⟩ : ∃ k, j - ps.length = k := ⟨_, rfl⟩
            rw [hk] at hj
            cases k with
            | zero =>
              cases hj
              exact ⟨x, by rw [show j = i by omega]; exact hx, ru.updD hD2⟩
            | succ k => simp at hj
        · rw [upd_ne (ne_of_none e nD)]
          exact s2 _ _ (sm _ _ e)
      · rintro H8 ⟨ps, hl, hD, hps, sm⟩
        refine ⟨D, rfl, ps, .inl ⟨.inl (.inl hD), fun l nl => ?_⟩⟩
        obtain ⟨J0, h0', j0, k0⟩ := new_at (o := .tup ps) nl
        rw [← h0']
        intro q1 m1
        obtain ⟨J1, h1', j1, k1⟩ := new_at (o := .tup [.str "number", .int n]) m1
        rw [← h1']
        intro q2 m2
        obtain ⟨J2, h2', j2, k2⟩ := new_at (o := .tup [.str "address", .int pl]) m2
        rw [← h2']
        intro q3 m3
        obtain ⟨J3, h3', j3, k3⟩ := new_at (o := .tup [.str "mark", .int mk]) m3
        rw [← h3']
        intro q4 m4
        obtain ⟨J4, h4', j4, k4⟩ := new_at (o := .tup [.str "header", .str "closure", .int fd]) m4
        rw [← h4']
        intro qd md
        obtain ⟨J5, h5', j5, k5⟩ := new_at (o := .tup [.ref q1, .ref q2, .ref q3, .ref q4]) md
        rw [← h5']
        have J45 := j5
        have J35 := j4.trans J45
        have J25 := j3.trans J35
        have J15 := j2.trans J25
        have J05 := j1.trans J15
        refine same_ok (.inr ⟨l, qd, ps, _, rfl, rfl, J05 _ _ k0, k5, hl, by show 4 < 1000; decide, fun i u v hu hv => ?_⟩) fun L0 sL0 => ⟨true, rfl, ?_⟩
        · obtain ⟨x, hx, hr⟩ := hps i u hu
          have hr := hr.same (j0.trans J05)
          rcases i with _ | _ | _ | _ | i
          · cases hx; cases hv
            exact hr.eqd' (rd_number b1.1 b1.2) (J15 _ _ k1)
          · cases hx; cases hv
            exact hr.eqd' (rd_address pl0 plh) (J25 _ _ k2)
          · cases hx; cases hv
            exact hr.eqd' (rd_mark mk0 mkh) (J35 _ _ k3)
          · cases hx; cases hv
            exact hr.eqd' (rd_closure fd1.1 fd1.2) (J45 _ _ k4)
          · simp at hv
        rw [if_neg (by decide)]
        have S9 := (((sw.trans S7).trans sm).trans (j0.trans J05)).trans sL0
        refine read_ok rfl fun u1 L1 t1 r1' => read_ok rfl fun u2 L2 t2 r2' => fun a1 n1 => ?_
        obtain ⟨M1, g1', g1, i1⟩ := new_at (o := .tup [u1, u2]) n1
        rw [← g1']
        intro a2 n2'
        obtain ⟨M2, g2', g2, i2⟩ := new_at (o := .tup [.str "header", .str "pair", .int 2]) n2'
        rw [← g2']
        intro a3 n3'
        obtain ⟨M3, g3', g3, i3⟩ := new_at (o := .tup [.str "header", .str "box", .int 1]) n3'
        rw [← g3']
        intro a4 n4'
        obtain ⟨M4, g4', g4, i4⟩ := new_at (o := .tup [.ref a2, .ref a3]) n4'
        rw [← g4']
        have M24 := g3.trans g4
        have M14 := g2.trans M24
        refine same_ok (EqdL.tup (n := 1) (.two ((((r1'.same t2).same g1).same M14).eqd' rd71 (M24 _ _ i2)) (((r2'.same g1).same M14).eqd' rd43 (g4 _ _ i3))) (M14 _ _ i1) i4 (by show 2 < 1000; decide)) fun L3 sL3 => ⟨true, rfl, ?_⟩
        rw [if_neg (by decide)]
        have S10 := ((((S9.trans t1).trans t2).trans g1).trans M14).trans sL3
        refine ⟨w, rfl, hw5.same S10, fun wd L4 hwL4 f6 => ⟨w, rfl, hwL4, fun ov L5 hov hwL5 f7 => ?_⟩⟩
        obtain ⟨ty, hty⟩ := hov.ty
        refine read_ok rfl fun u3 L6 t6 r3' => ?_
        obtain ⟨ty2, hty2⟩ := (hov.same t6).ty
        refine read_ok hty2 fun u4 L7 t7 r4' => fun b1' o1 => ?_
        obtain ⟨N1, y1', y1, z1⟩ := new_at (o := .tup [u3, u4]) o1
        rw [← y1']
        refine read_ok rfl fun u5 L8 t8 r5' => ?_
        obtain ⟨ty3, hty3⟩ := ((((hov.same t6).same t7).same y1).same t8).ty
        refine read_ok hty3 fun u6 L9 t9 r6' => fun b2' o2 => ?_
        obtain ⟨N2, y2', y2, z2⟩ := new_at (o := .tup [u5, u6]) o2
        rw [← y2']
        have S11 := (t8.trans t9).trans y2
        refine same_ok (EqdL.tup (n := 1) (.two ((((r3'.same t7).same y1).same S11).eqd ((r5'.same t9).same y2)) (((r4'.same y1).same S11).eqd (r6'.same y2))) (S11 _ _ z1) z2 (by show 2 < 1000; decide)) fun L10 s10 => ?_
        have S12 := (((t6.trans t7).trans y1).trans S11).trans s10
        exact q _ (hwL5.same S12) ((((F5.trans (.same S10)).trans f6).trans f7).trans (.same S12))
end
end K42
set_option maxHeartbeats 4000000
namespace K42
open PySem PySem.Spec PyProof.Rows L2 FS
open He (ga ma)
open LamX (TabB Tabs ExtN)
/-! ### odd things, their texts, what keeps them -/
def words : List Str := ["1", "", "number", "Pair", "closures", "mark"]
inductive GvD (H : Hp) : V → PyData → Prop
  | non : GvD H .non .none
  | bl (b : Bool) : GvD H (.bl b) (.bool b)
  | int (i : Int) (h0 : -10000000000 ≤ i) (h1 : i ≤ 10000000000) : GvD H (.int i) (.int i)
  | str (x : Str) (h : x ∈ words) : GvD H (.str x) (.str x)
  | t1 {a : Addr} (h : H a = some (.tup [.int 1])) : GvD H (.ref a) (.tuple [.int 1])
  | l1 {a : Addr} (h : H a = some (.lst [.int 1])) : GvD H (.ref a) (.list [.int 1])
  | t0 {a : Addr} (h : H a = some (.tup [])) : GvD H (.ref a) (.tuple [])
  | d0 {a : Addr} (h : H a = some (.dK [])) : GvD H (.ref a) (.dict [])
  | nest {a b : Addr} (h : H a = some (.lst [.int 0, .ref b])) (h2 : H b = some (.tup [.int 2])) : GvD H (.ref a) (.list [.int 0, .tuple [.int 2]])
theorem OddV.gv {H : Hp} {v : V} (h : OddV H v) : ∃ d, GvD H v d := by
  cases h with
  | non => exact ⟨_, .non⟩
  | bl b => exact ⟨_, .bl b⟩
  | s1 => exact ⟨_, .str _ (by decide +kernel)⟩
  | s0 => exact ⟨_, .str _ (by decide +kernel)⟩
  | t1 h => exact ⟨_, .t1 h⟩
  | l1 h => exact ⟨_, .l1 h⟩
  | far _ a b => exact ⟨_, .int _ a b⟩
  | t0 h => exact ⟨_, .t0 h⟩
  | d0 h => exact ⟨_, .d0 h⟩
  | nest h h2 => exact ⟨_, .nest h h2⟩
theorem GvD.ty {H : Hp} {v : V} {d : PyData} (h : GvD H v d) : ∃ s, tyN H v = some s := by
  cases h with
  | t1 h => exact ⟨"tuple", by simp only [tyN, h]⟩
  | l1 h => exact ⟨"list", by simp only [tyN, h]⟩
  | t0 h => exact ⟨"tuple", by simp only [tyN, h]⟩
  | d0 h => exact ⟨"dict", by simp only [tyN, h]⟩
  | nest h _ => exact ⟨"list", by simp only [tyN, h]⟩
  | _ => exact ⟨_, rfl⟩
/-- all but the well and the tables of code stay -/
def KpW (w : Addr) (H H' : Hp) : Prop := ∀ b o, b ≠ w → (∀ ps, o ≠ .tbl ps) → H b = some o → H' b = some o
theorem KpW.refl (w : Addr) (H : Hp) : KpW w H H := fun _ _ _ _ h => h
theorem KpW.trans {w : Addr} {H H1 H2 : Hp} (a : KpW w H H1) (b : KpW w H1 H2) : KpW w H H2 := fun c o n m h => b c o n m (a c o n m h)
theorem KpW.fr {w : Addr} {H H' : Hp} (h : Fr w H H') : KpW w H H' := fun b o n _ e => h b o n e
theorem KpW.ext {w : Addr} {H H' : Hp} (h : ExtN H H') : KpW w H H' := fun b o _ m e => h b o e m
theorem KpW.same {w : Addr} {H H' : Hp} (h : Same H H') : KpW w H H' := fun b o _ _ e => h b o e
theorem IsW.ext {H H' : Hp} {w : Addr} (h : IsW H w) (s : ExtN H H') : IsW H' w := by
  obtain ⟨a, m, c, e⟩ := h
  exact ⟨a, m, c, s _ _ e fun ps z => by cases z⟩
theorem GvD.kp {H H' : Hp} {v : V} {d : PyData} {w : Addr} (h : GvD H v d) (hw : IsW H w) (f : KpW w H H') : GvD H' v d := by
  have k : ∀ b o, H b = some o → (∀ xs : List V, xs.length = 3 → o ≠ .lst xs) → (∀ ps, o ≠ .tbl ps) → H' b = some o := fun b o e n m => f b o (fun z => by
    obtain ⟨_, _, _, q⟩ := hw
    rw [← z, e] at q
    exact n _ rfl (Option.some.inj q)) m e
  cases h with
  | non => exact .non
  | bl b => exact .bl b
  | str x hx => exact .str x hx
  | int i a b => exact .int i a b
  | t1 h => exact .t1 (k _ _ h (fun xs _ z => nomatch z) fun _ z => nomatch z)
  | t0 h => exact .t0 (k _ _ h (fun xs _ z => nomatch z) fun _ z => nomatch z)
  | d0 h => exact .d0 (k _ _ h (fun xs _ z => nomatch z) fun _ z => nomatch z)
  | l1 h => exact .l1 (k _ _ h (fun xs l z => by cases z; simp at l) fun _ z => nomatch z)
  | nest h h2 => exact .nest (k _ _ h (fun xs l z => by cases z; simp at l) fun _ z => nomatch z) (k _ _ h2 (fun xs _ z => nomatch z) fun _ z => nomatch z)
theorem GvD.ext {H H' : Hp} {v : V} {d : PyData} (h : GvD H v d) (f : ExtN H H') : GvD H' v d := by
  cases h with
  | non => exact .non
  | bl b => exact .bl b
  | str x hx => exact .str x hx
  | int i a b => exact .int i a b
  | t1 h => exact .t1 (f _ _ h fun _ z => nomatch z)
  | t0 h => exact .t0 (f _ _ h fun _ z => nomatch z)
  | d0 h => exact .d0 (f _ _ h fun _ z => nomatch z)
  | l1 h => exact .l1 (f _ _ h fun _ z => nomatch z)
  | nest h h2 => exact .nest (f _ _ h fun _ z => nomatch z) (f _ _ h2 fun _ z => nomatch z)
theorem showable_int {i : Int} (h0 : -10000000000 ≤ i) (h1 : i ≤ 10000000000) : (PyData.int i).showable = true := by
  refine decide_eq_true ?_
  have h : i.natAbs < 2 ^ 34 := by omega
  by_cases z : i.natAbs = 0
  · rw [z]; decide
  · exact Nat.lt_trans ((Nat.log2_lt z).mpr h) (by decide)
theorem GvD.rep {K : PySem.W.Frag} {H : Hp} {v : V} {d : PyData} (h : GvD H v d) : Rep K H v d := by
  have z : ∀ x : Str, x.length ≤ 1000 → x.length ≤ sizeLine := fun x h => Nat.le_trans h (by rw [sizeLine_eq]; decide)
  cases h with
  | non => exact ⟨.inl ⟨.non, rfl⟩, rfl, by decide, fun _ => z _ (by decide +kernel)⟩
  | bl b => exact ⟨.inl ⟨.bl b, rfl⟩, rfl, by show 0 ≤ 10; decide, fun _ => z _ (by cases b <;> decide +kernel)⟩
  | int i a b => exact ⟨.inl ⟨.int i, rfl⟩, showable_int a b, by show 0 ≤ 10; decide, fun n => absurd rfl (n i)⟩
  | str x hx =>
    refine ⟨.inl ⟨.str x, rfl⟩, rfl, by show 0 ≤ 10; decide, fun _ => z _ ?_⟩
    unfold words at hx
    simp only [List.mem_cons, List.not_mem_nil, or_false] at hx
    rcases hx with rfl | rfl | rfl | rfl | rfl | rfl <;> decide +kernel
  | t1 h => exact ⟨.inl ⟨.tup (.inl (.inl h)) (.cons (.int 1) .nil), rfl⟩, by decide +kernel, by decide +kernel, fun _ => z _ (by decide +kernel)⟩
  | l1 h => exact ⟨.inl ⟨.lst (.inl (.inl h)) (.cons (.int 1) .nil), rfl⟩, by decide +kernel, by decide +kernel, fun _ => z _ (by decide +kernel)⟩
  | t0 h => exact ⟨.inl ⟨.tup (.inl (.inl h)) .nil, rfl⟩, by decide +kernel, by decide +kernel, fun _ => z _ (by decide +kernel)⟩
  | d0 h => exact ⟨.inr ⟨_, rfl, h, rfl⟩, by decide +kernel, by decide +kernel, fun _ => z _ (by decide +kernel)⟩
  | nest h h2 => exact ⟨.inl ⟨.lst (.inl (.inl h)) (.cons (.int 0) (.cons (.tup (.inl (.inl h2)) (.cons (.int 2) .nil)) .nil)), rfl⟩, by decide +kernel, by decide +kernel, fun _ => z _ (by decide +kernel)⟩
theorem GvD.text {H : Hp} {v : V} {d : PyData} (h : GvD H v d) : (PyData.str d.shown).canLay0 = true := by
  cases h with
  | bl b => cases b <;> decide +kernel
  | int i _ _ => exact int_cps i
  | str x hx =>
    unfold words at hx
    simp only [List.mem_cons, List.not_mem_nil, or_false] at hx
    rcases hx with rfl | rfl | rfl | rfl | rfl | rfl <;> decide +kernel
  | _ => decide +kernel
/-- two tuples of the same data are equal -/
theorem eq_tup3 {K : PySem.W.Frag} {H : Hp} {a b : Addr} {x t : Str} {f : Bool} (ha : H a = some (.tup [.str x, .str t, .bl f])) (hb : H b = some (.tup [.str x, .str t, .bl f])) (hx : (PyData.str x).canLay0 = true) (ht : (PyData.str t).canLay0 = true) :
    ∃ d e, Dp K H (.ref a) d ∧ Dp K H (.ref b) e ∧ SeqAt.shaped d = true ∧ SeqAt.shaped e = true ∧ PyData.eqv d e = true := by
  have hl : (PyData.tuple [.str x, .str t, .bool f]).canLay0 = true := by
    show ((PyData.str x).canLay0 && ((PyData.str t).canLay0 && (true && true))) = true
    rw [hx, ht]
    rfl
  have hs : SeqAt.shaped (.tuple [.str x, .str t, .bool f]) = true := Bool.and_eq_true_iff.mpr ⟨hl, by rfl⟩
  exact ⟨_, _, .tup (.inl (.inl ha)) (.cons (.str x) (.cons (.str t) (.cons (.bl f) .nil))), .tup (.inl (.inl hb)) (.cons (.str x) (.cons (.str t) (.cons (.bl f) .nil))), hs, hs, SeqAt.eqv_refl _ hl⟩
theorem eq_tup2 {K : PySem.W.Frag} {H : Hp} {a b : Addr} {x : Str} {i : Int} (ha : H a = some (.tup [.str x, .int i])) (hb : H b = some (.tup [.str x, .int i])) (hx : (PyData.str x).canLay0 = true) :
    ∃ d e, Dp K H (.ref a) d ∧ Dp K H (.ref b) e ∧ SeqAt.shaped d = true ∧ SeqAt.shaped e = true ∧ PyData.eqv d e = true := by
  have hl : (PyData.tuple [.str x, .int i]).canLay0 = true := by
    show ((PyData.str x).canLay0 && (true && true)) = true
    rw [hx]
    rfl
  have hs : SeqAt.shaped (.tuple [.str x, .int i]) = true := Bool.and_eq_true_iff.mpr ⟨hl, by rfl⟩
  exact ⟨_, _, .tup (.inl (.inl ha)) (.cons (.str x) (.cons (.int i) .nil)), .tup (.inl (.inl hb)) (.cons (.str x) (.cons (.int i) .nil)), hs, hs, SeqAt.eqv_refl _ hl⟩
/-- tables through draws -/
theorem tabs_fr {T : List (Addr × Str)} {H H' : Hp} {w : Addr} (t : Tabs T H) (hw : IsW H w) (f : Fr w H H') : Tabs T H' := fun p hp => by
  obtain ⟨ps, h1, h2, h3⟩ := t p hp
  obtain ⟨a, m, c, q⟩ := hw
  refine ⟨ps, f _ _ (fun z => by rw [z, q] at h1; cases h1) h1, h2, fun pos cv hc => ?_⟩
  obtain ⟨c', e1, e2⟩ := h3 pos cv hc
  refine ⟨c', e1, f _ _ (fun z => ?_) e2⟩
  rw [z, q] at e2
  exact absurd e2 (by unfold LamX.CodeO; exact fun z => nomatch z)
theorem tabs_same {T : List (Addr × Str)} {H H' : Hp} (t : Tabs T H) (f : Same H H') : Tabs T H' := t.ext f
/-- an error of the value v is told -/
theorem toldE_of {K : PySem.W.Frag} {C : Addr} {word : Str} {H : Hp} {v : V} {d : PyData} {dd : Addr} {Q : VK} (hC : (C = ga K "InvalidNumber" ∧ word = "number") ∨ (C = ga K "InvalidName" ∧ word = "name")) (hg : GvD H v d) (nd : H dd = none)
    (q : ∀ H2 p, Same H H2 → H2 p = some (.tup [.str word, .str d.shown, .bl true]) → Q (.ref p) H2) : toldE K Q (.ref C) (some dd) (upd H dd (.xd [("given", v)])) := by
  have s := same_upd (o := .xd [("given", v)]) nd
  exact ⟨C, word, hC, rfl, dd, v, d, rfl, upd_same, (hg.ext fun b o e _ => s b o e).rep, fun p np => q _ p (s.trans (same_upd np)) upd_same⟩
/-- told(lambda: word(v)), v none of its numbers -/
theorem told_num {K : PySem.W.Frag} {T : List (Addr × Str)} {lo hi : Int} {f : Int → Int} {i : Nat} {σ : L2.St} {H : Hp} {Q : VK} {v : V} {d : PyData} (hσ : σ[i]? = some (some v)) (hg : GvD H v d) (ho : within v lo hi = false) (hT : Tabs T H)
    (q : ∀ H2 p, ExtN H H2 → Tabs T H2 → H2 p = some (.tup [.str "number", .str d.shown, .bl true]) → Q (.ref p) H2) :
    LamX.tLam T (TT2 K) (fun E => tCall (sp_word (ga K "InvalidNumber") lo hi f) [] E (tCons (tVar i) tNil)) σ H Q := by
  refine ⟨hT, fun H1 eN T1 => ?_⟩
  have hg1 := hg.ext eN
  obtain ⟨s, hs⟩ := hg1.ty
  exact ⟨v, hσ, v, s, rfl, hs, fun j e hw => absurd (ho.symm.trans hw) (by decide), fun _ dd nd => toldE_of (.inl ⟨rfl, rfl⟩) hg1 nd fun H2 p s2 hp => q H2 p (eN.trans (.of s2)) (T1.ext s2) hp⟩
/-- told(lambda: header_word(kind, v)) -/
theorem told_head {K : PySem.W.Frag} {T : List (Addr × Str)} {i j : Nat} {σ : L2.St} {H : Hp} {Q : VK} {v : V} {x : Str} {d : PyData} (hσ : σ[i]? = some (some (.str x))) (hσ2 : σ[j]? = some (some v)) (hx : x ∈ kinds) (hg : GvD H v d) (hT : Tabs T H)
    (qe : (within v 1 999999999 = false ∨ ∃ n, v = .int n ∧ hasF x n = false) → ∀ H2 p, ExtN H H2 → Tabs T H2 → H2 p = some (.tup [.str "number", .str d.shown, .bl true]) → Q (.ref p) H2)
    (qo : ∀ n, v = .int n → within v 1 999999999 = true → hasF x n = true → ∀ H2 p, ExtN H H2 → Tabs T H2 → H2 p = some (.tup [.str "told", .int (4 * (8 * n + (if x = "closure" then 0 else if x = "pair" then 1 else 2)) + 3)]) → Q (.ref p) H2) :
    LamX.tLam T (TT2 K) (fun E => tCall (sp_header_word (ga K "InvalidNumber") (ga K "InvalidName")) [] E (tCons (tVar i) (tCons (tVar j) tNil))) σ H Q := by
  refine ⟨hT, fun H1 eN T1 => ?_⟩
  have hg1 := hg.ext eN
  obtain ⟨s, hs⟩ := hg1.ty
  refine ⟨_, hσ, v, hσ2, .str x, v, "str", s, rfl, rfl, hs, fun z => absurd ⟨x, rfl, hx⟩ z, fun y e hy => ?_⟩
  cases e
  exact ⟨fun z dd nd => toldE_of (.inl ⟨rfl, rfl⟩) hg1 nd fun H2 p s2 hp => qe z H2 p (eN.trans (.of s2)) (T1.ext s2) hp,
    fun n e hw hf => ⟨by rw [sizeLine_eq]; exact (by decide : 2 ≤ 16777216), fun p np => qo n e hw hf _ p (eN.trans (.of (same_upd np))) (T1.ext (same_upd np)) upd_same⟩⟩
/-- told(lambda: header_word(name, v)), name no kind -/
theorem told_name {K : PySem.W.Frag} {T : List (Addr × Str)} {i j : Nat} {σ : L2.St} {H : Hp} {Q : VK} {v k : V} {d d2 : PyData} (hσ : σ[i]? = some (some k)) (hσ2 : σ[j]? = some (some v)) (hk : ¬ ∃ x, k = .str x ∧ x ∈ kinds) (hg : GvD H k d) (hg2 : GvD H v d2) (hT : Tabs T H)
    (q : ∀ H2 p, ExtN H H2 → Tabs T H2 → H2 p = some (.tup [.str "name", .str d.shown, .bl true]) → Q (.ref p) H2) :
    LamX.tLam T (TT2 K) (fun E => tCall (sp_header_word (ga K "InvalidNumber") (ga K "InvalidName")) [] E (tCons (tVar i) (tCons (tVar j) tNil))) σ H Q := by
  refine ⟨hT, fun H1 eN T1 => ?_⟩
  have hg1 := hg.ext eN
  obtain ⟨s, hs⟩ := hg1.ty
  obtain ⟨s2, hs2⟩ := (hg2.ext eN).ty
  exact ⟨_, hσ, v, hσ2, k, v, s, s2, rfl, hs, hs2, fun _ dd nd => toldE_of (.inr ⟨rfl, rfl⟩) hg1 nd fun H2 p s2 hp => q H2 p (eN.trans (.of s2)) (T1.ext s2) hp, fun y e hy => absurd ⟨y, e, hy⟩ hk⟩
theorem GvD.no_kind {H : Hp} {v : V} {d : PyData} (h : GvD H v d) : ¬ ∃ x, v = .str x ∧ x ∈ kinds := by
  rintro ⟨x, rfl, hx⟩
  cases h with
  | str _ h =>
    unfold words at h
    simp only [List.mem_cons, List.not_mem_nil, or_false] at h
    rcases h with rfl | rfl | rfl | rfl | rfl | rfl <;> exact absurd hx (by decide +kernel)
end K42
set_option maxHeartbeats 4000000
namespace K42
open PySem PySem.Spec PyProof.Rows L2 FS
open He (ga ma)
open LamX (TabB Tabs ExtN)
local macro_rules | `(tactic| walk_at "rd") => `(tactic| simp only [tSeq, tIfS, tNext, tRet, tAsg, tDrop, tPar, gName, gTup, gCons, gNil, gSub, tAnd, tOr, tNot, tB, tTest, tIf, tAndV, tOrV, tNotV, tCB, tCons, tNil, tVar, tC, tOp, tUn, rU, rI, rI0, rEq, rNe, CMul, CDiv, CPow, tTup, tLst, tDNewK, rIsiN, rInt1, tChain, tCall, tRaise1, rIxT, rIxL, rIxA, rSetA, gTupA, rLenA, seqO, at0, at1, at2, ix0, ix1, ix2, upd_same, upd_upd,
  L2.start, List.map_cons, List.map_nil, List.length_cons, List.length_nil, List.cons_append, List.nil_append, List.append_nil, List.replicate_succ, List.replicate_zero, Nat.reduceAdd, Nat.reduceSub, List.set_cons_zero, List.set_cons_succ,
  List.getElem?_cons_zero, List.getElem?_cons_succ, Option.some.injEq, exists_eq_left', exists_eq_left, V.int.injEq, V.bl.injEq, V.str.injEq, V.ref.injEq, V.ty.injEq, List.cons.injEq, reduceCtorEq, false_and, exists_false, true_and, and_true, decide_eq_true_eq, Bool.not_eq_true', decide_eq_false_iff_not, exists_const, and_assoc, exists_and_left, Int.reducePow, Int.reduceLE, Int.reduceToNat, nab10, Int.reduceMul, Int.reduceSub, Int.reduceAdd, Nat.reducePow, Nat.reduceLT, Int.reduceNeg, Int.reduceLT, or_true, true_or, sizeLine_eq, Nat.reduceLeDiff, ne_eq, not_false_eq_true, tyN, isOf, scal, m_int, m_bool, m_str, m_tup, cxK, cxKn, String.reduceBEq, Bool.true_or, Bool.or_true, Bool.or_false, Bool.false_or, Bool.and_true, Bool.true_and, Bool.false_and, Bool.and_false, Bool.not_true, Bool.not_false, Bool.false_eq_true, ↓reduceIte, not_true_eq_false, not_false_eq_true])

def lamQ : Str := (envOfC "_law_is_refused" (defScope s__law_is_refused) 0 0 .none).qual ++ "<lambda>"
def Tbs (P : Addr) : List (Addr × Str) := [(P, lamQ)]
section
variable {X : Cx} {c P : Addr} {k : Nat} {params : Arguments} {body : Expr} {scope : Scope} {t : XK → TE} {p lpos pos : Pos}
theorem pe_told (T : Tx X.K X.mg) (hgd : X.A.guards = some []) (hr : Room (k + 2) X.A) (TB : TabB X.base X.mg c P) (L : LamX.LamS X.env.scope scope) (hdef : defaultsOf params X.env = ([], []))
    (hbind : ∀ (q : Str) (cl : List (Str × Addr)) (pm cv ctv : Value), bindArgs (PySem.W.kla_fn "<lambda>" q params body scope cl pm cv ctv) ⟨[], []⟩ = pure [])
    (hbody : ∀ (A : Around) (outer : List Env) (s : Shared) (H : Hp) (E : XK) (f c' : Addr), Room k (A.deeper (LamX.lamEnv X scope s.heap.objs.size f c')) → PE (LamX.lamCx X A outer s H E scope f c') body (t E))
    (hg : Gl X "_law_told" := by rfl) (hcode : X.env.code = .ref c := by rfl) (hq : X.env.qual ++ "<lambda>" = lamQ := by rfl) :
    PE X (.Call (.Name "_law_told" p) [.Lambda params body scope lpos] [] pos) (LamX.tLam (Tbs P) (TT2 X.K) t) := by
  obtain ⟨oc, od, kV, doc, pm, an, cdv, ct, osl, e, lk, hcd⟩ := T.F__law_told.ex
  rw [e] at lk
  exact LamX.pe_lamcall hg T.mg__law_told T.F__law_told.kp lk hcd (e ▸ T.b__law_told) sc__law_told rfl (.inl rfl) (told_gives2 T hgd hr) TB hcode (by rw [hq]; exact List.mem_singleton.mpr rfl)
    (fun q hq' _ => by rw [List.mem_singleton.mp hq', hq]) hr L hdef hbind hbody
end
/-- one statement of a body, the rest behind a name -/
theorem seq_step {a b : TS} {D : Ends} {σ : L2.St} {H : Hp} (h : ∀ rest : TS, rest = b → tSeq a rest D σ H) : tSeq a b D σ H := h b rfl
def hasV (k : Str) : V → Bool
  | .int n => hasF k n
  | _ => false
section
variable {P : Program} {w : World} {K : PySem.W.Frag} {mg : Str → Option Value} {base : Heap}
def tabA (K : PySem.W.Frag) : Addr := (He.cT K ("_law_is_refused", none)).2
def sp_is_refused (K : PySem.W.Frag) : Sp := fun vs H Q _ => ∃ (w : Addr), vs = [.ref w] ∧ IsW H w ∧ Tabs (Tbs (tabA K)) H ∧ ∀ H', IsW H' w → Tabs (Tbs (tabA K)) H' → (∀ b o, b ≠ w → (∀ ps, o ≠ .tbl ps) → H b = some o → H' b = some o) → Q (.bl true) H'
theorem ok__law_is_refused (T : Tx K mg) (TB : TabB base mg (He.cT K ("_law_is_refused", none)).1 (He.cT K ("_law_is_refused", none)).2) : FnG P w K mg base CX0 7 (ga K "_law_is_refused") T.fd__law_is_refused ["_law_well_here"] (sp_is_refused K) := by
  refine okC T.F__law_is_refused sc__law_is_refused (fun vs H Q E h => ?_) (fun A outer s H vs Q E hgd hr h => ⟨_, (pss_cons (ps_asg (pe_tup (pa_cons (pe_call (ok__law_odd T) (hr.mono (by decide)) (by rfl) T.mg__law_odd T.F__law_odd.kp T.b__law_odd .nil pass0 (pa_cons (pv 0) pa_nil)) (pa_cons (pe_call (ok__law_pick T) (hr.mono (by decide)) (by rfl) T.mg__law_pick T.F__law_pick.kp T.b__law_pick .nil pass0 (pa_cons (pv 0) (pa_cons (pe_tup (pa_cons pe_str (pa_cons pe_str (pa_cons pe_str pa_nil)))) pa_nil))) pa_nil))) (pg_tupA (n := 2) rfl (pgs_cons (pg_name (i := 1) sc__law_is_refused.nd rfl (Or.inr rfl)) (pgs_cons (pg_name (i := 2) sc__law_is_refused.nd rfl (Or.inr rfl)) pgs_nil))))
    (pss_cons (ps_set (i := 3) sc__law_is_refused.nd rfl (Or.inr rfl) (pe_call (ok__law_pick T) (hr.mono (by decide)) (by rfl) T.mg__law_pick T.F__law_pick.kp T.b__law_pick .nil pass0 (pa_cons (pv 0) (pa_cons (pe_tup (pa_cons (pv 1) (pa_cons (pe_un un_neg pe_int) (pa_cons (pe_un un_neg pe_int) pa_nil)))) pa_nil))))
    (pss_cons (ps_set (i := 4) sc__law_is_refused.nd rfl (Or.inl rfl) (pe_tup (pa_cons pe_str (pa_cons (pe_callB (call_repr hgd hr.units) (by rfl) T.n_repr (by decide +kernel) (pa_cons (pv 1) pa_nil)) (pa_cons pe_bl pa_nil)))))
    (pss_cons (ps_if (pt_cmpR (op_neD hr.units) (pe_told T hgd hr TB (LamX.lamS_by (sc := defScope s__law_is_refused) (by decide +kernel)) rfl (fun _ _ _ _ _ => rfl) (fun _ _ _ _ _ _ _ hr2 => (pe_call (ok_number_word T) (hr2.mono (by decide)) (by rfl) T.mg_number_word T.F_number_word.kp T.b_number_word .nil (passes_call (takes_of rfl rfl rfl rfl) (fun _ _ _ _ h => h)) (pa_cons (pv 1) pa_nil)))) (pv 4) (nomark _)) (pss_one (ps_ret pe_bl)) pss_nil)
    (pss_cons (ps_set (i := 4) sc__law_is_refused.nd rfl (Or.inl rfl) (pe_tup (pa_cons pe_str (pa_cons (pe_callB (call_repr hgd hr.units) (by rfl) T.n_repr (by decide +kernel) (pa_cons (pv 3) pa_nil)) (pa_cons pe_bl pa_nil)))))
    (pss_cons (ps_if (pt_cmpR (op_neD hr.units) (pe_told T hgd hr TB (LamX.lamS_by (sc := defScope s__law_is_refused) (by decide +kernel)) rfl (fun _ _ _ _ _ => rfl) (fun _ _ _ _ _ _ _ hr2 => (pe_call (ok_address_word T) (hr2.mono (by decide)) (by rfl) T.mg_address_word T.F_address_word.kp T.b_address_word .nil (passes_call (takes_of rfl rfl rfl rfl) (fun _ _ _ _ h => h)) (pa_cons (pv 3) pa_nil)))) (pv 4) (nomark _)) (pss_one (ps_ret pe_bl)) pss_nil)
    (pss_cons (ps_if (pt_cmpR (op_neD hr.units) (pe_told T hgd hr TB (LamX.lamS_by (sc := defScope s__law_is_refused) (by decide +kernel)) rfl (fun _ _ _ _ _ => rfl) (fun _ _ _ _ _ _ _ hr2 => (pe_call (ok_mark_word T) (hr2.mono (by decide)) (by rfl) T.mg_mark_word T.F_mark_word.kp T.b_mark_word .nil (passes_call (takes_of rfl rfl rfl rfl) (fun _ _ _ _ h => h)) (pa_cons (pv 3) pa_nil)))) (pv 4) (nomark _)) (pss_one (ps_ret pe_bl)) pss_nil)
    (pss_cons (ps_set (i := 5) sc__law_is_refused.nd rfl (Or.inr rfl) (pe_call (ok__law_pick T) (hr.mono (by decide)) (by rfl) T.mg__law_pick T.F__law_pick.kp T.b__law_pick .nil pass0 (pa_cons (pv 0) (pa_cons (pe_tup (pa_cons (pv 1) (pa_cons pe_int (pa_cons pe_int (pa_cons pe_int (pa_cons pe_int (pa_cons (pe_call (ok__law_wide T) (hr.mono (by decide)) (by rfl) T.mg__law_wide T.F__law_wide.kp T.b__law_wide .nil pass0 (pa_cons (pv 0) pa_nil)) (pa_cons (pe_un un_neg pe_int) pa_nil)))))))) pa_nil))))
    (pss_cons (ps_set (i := 6) sc__law_is_refused.nd rfl (Or.inl rfl) (pe_and (pe_callB call_isiN (by rfl) T.n_isinstance (by decide +kernel) (pa_cons (pv 5) (pa_cons (pe_bltn (v := .ty "int") (by rfl) T.n_int (by decide +kernel) rfl) pa_nil))) (pe_and (pe_not (pe_callB call_isiN (by rfl) T.n_isinstance (by decide +kernel) (pa_cons (pv 5) (pa_cons (pe_bltn (v := .ty "bool") (by rfl) T.n_bool (by decide +kernel) rfl) pa_nil)))) (pe_one (pe_chain op_lt op_lt pe_int (pv 5) (pe_op op_pow pe_int pe_int))))))
    (pss_cons (ps_if (PW.pt (pw_and (pt_val (pv 6)) (pw_and1 (pt_cmpR op_ne (pv 2) pe_str (nomark _))))) (pss_one (ps_set (i := 6) sc__law_is_refused.nd rfl (Or.inl rfl) (pe_cmpR op_eq (pv 5) (pe_ifExp (pt_cmpR op_eq (pv 2) pe_str (nomark _)) pe_int pe_int) (nomark _)))) pss_nil)
    (pss_cons (ps_set (i := 4) sc__law_is_refused.nd rfl (Or.inl rfl) (pe_tup (pa_cons pe_str (pa_cons (pe_callB (call_repr hgd hr.units) (by rfl) T.n_repr (by decide +kernel) (pa_cons (pv 5) pa_nil)) (pa_cons pe_bl pa_nil)))))
    (pss_cons (ps_if (pt_val (pv 6)) (pss_one (ps_set (i := 4) sc__law_is_refused.nd rfl (Or.inl rfl) (pe_tup (pa_cons pe_str (pa_cons (pe_op op_add (pe_op op_add (pe_op op_mul pe_int (pv 5)) pe_int) (pe_ifExp (pt_cmpR op_eq (pv 2) pe_str (nomark _)) pe_int (pe_ifExp (pt_cmpR op_eq (pv 2) pe_str (nomark _)) pe_int pe_int))) pa_nil))))) pss_nil)
    (pss_cons (ps_set (i := 7) sc__law_is_refused.nd rfl (Or.inl rfl) (pe_told T hgd hr TB (LamX.lamS_by (sc := defScope s__law_is_refused) (by decide +kernel)) rfl (fun _ _ _ _ _ => rfl) (fun _ _ _ _ _ _ _ hr2 => (pe_call (ok_header_word T) (hr2.mono (by decide)) (by rfl) T.mg_header_word T.F_header_word.kp T.b_header_word .nil (passes_call (takes_of rfl rfl rfl rfl) (fun _ _ _ _ h => h)) (pa_cons (pv 2) (pa_cons (pv 5) pa_nil))))))
    (pss_cons (ps_if (PW.pt (pw_or (pt_cmpR (op_neD hr.units) (pv 7) (pv 4) (nomark _)) (pw_or1 (PW.pt (pw_and (pt_val (pv 6)) (pw_and1 (pt_val (pe_callB call_isiN (by rfl) T.n_isinstance (by decide +kernel) (pa_cons (pe_ix ix_at (pv 7) pe_int (fun _ _ => rfl)) (pa_cons (pe_bltn (v := .ty "bool") (by rfl) T.n_bool (by decide +kernel) rfl) pa_nil)))))))))) (pss_one (ps_ret pe_bl)) pss_nil)
    (pss_cons (ps_set (i := 8) sc__law_is_refused.nd rfl (Or.inr rfl) (pe_call (ok__law_pick T) (hr.mono (by decide)) (by rfl) T.mg__law_pick T.F__law_pick.kp T.b__law_pick .nil pass0 (pa_cons (pv 0) (pa_cons (pe_tup (pa_cons (pv 1) (pa_cons pe_str (pa_cons pe_str (pa_cons pe_str (pa_cons pe_str (pa_cons pe_str pa_nil))))))) pa_nil))))
    (pss_one (ps_ret (pe_cmpR (op_eqD hr.units) (pe_told T hgd hr TB (LamX.lamS_by (sc := defScope s__law_is_refused) (by decide +kernel)) rfl (fun _ _ _ _ _ => rfl) (fun _ _ _ _ _ _ _ hr2 => (pe_call (ok_header_word T) (hr2.mono (by decide)) (by rfl) T.mg_header_word T.F_header_word.kp T.b_header_word .nil (passes_call (takes_of rfl rfl rfl rfl) (fun _ _ _ _ h => h)) (pa_cons (pv 8) (pa_cons (pv 5) pa_nil))))) (pe_tup (pa_cons pe_str (pa_cons (pe_callB (call_repr hgd hr.units) (by rfl) T.n_repr (by decide +kernel) (pa_cons (pv 8) pa_nil)) (pa_cons pe_bl pa_nil)))) (nomark _))))))))))))))))))), ?_⟩)
  · obtain ⟨w, rfl, _⟩ := h
    rfl
  · obtain ⟨w, rfl, hw, hT, q⟩ := h
    refine seq_step fun r1 hr1 => ?_
    walk_at "rd"
    refine ⟨w, rfl, hw, fun ov H1 hov hw1 f1 => fun p np => ?_⟩
    obtain ⟨G, hG, sG, eG⟩ := new_at (o := .tup [.str "closure", .str "pair", .str "box"]) np
    rw [← hG]
    refine ⟨w, p, _, rfl, hw1.same sG, eG, (by show 0 < 3; decide), (by show 3 < 1000; decide), fun kd H2 hkd hw2 f2 => fun p' np' => ?_⟩
    obtain ⟨G2, hG2, sG2, eG2⟩ := new_at (o := .tup [ov, kd]) np'
    rw [← hG2]
    obtain ⟨kx, rfl, hkx⟩ : ∃ x, kd = .str x ∧ x ∈ kinds := by
      simp only [List.mem_cons, List.not_mem_nil, or_false] at hkd
      rcases hkd with rfl | rfl | rfl <;> exact ⟨_, rfl, by decide +kernel⟩
    obtain ⟨d1, g1⟩ := hov.gv
    have ho : ∀ lo hi : Int, -999999999 ≤ lo → hi ≤ 999999999 → within ov lo hi = false := fun _ _ => hov.out
    have T2 : Tabs (Tbs (tabA K)) G2 := tabs_same (tabs_fr (tabs_same (tabs_fr hT hw f1) sG) (hw1.same sG) f2) sG2
    have k2 : KpW w H1 G2 := ((KpW.same sG).trans (.fr f2)).trans (.same sG2)
    have g1 := g1.kp hw1 k2
    have hw2 := hw2.same sG2
    have K2 : KpW w H G2 := (KpW.fr f1).trans k2
    clear eG2 sG2 hG2 np' f2 hkd eG sG hG np f1 hov k2 hw1
    rw [hr1]
    clear hr1 r1
    -- below
    refine seq_step fun r1 hr1 => ?_
    walk_at "rd"
    intro p3 n3
    obtain ⟨G3, hG3, sG3, eG3⟩ := new_at (o := .tup [ov, .int (-1), .int (-999999999)]) n3
    rw [← hG3]
    refine ⟨w, p3, _, rfl, hw2.same sG3, eG3, (by show 0 < 3; decide), (by show 3 < 1000; decide), fun bv H3 hbv hw3 f3 => ?_⟩
    have k3 : KpW w G2 H3 := (KpW.same sG3).trans (.fr f3)
    obtain ⟨d2, g2, hb⟩ : ∃ d, GvD H3 bv d ∧ within bv 0 999999999 = false := by
      simp only [List.mem_cons, List.not_mem_nil, or_false] at hbv
      rcases hbv with rfl | rfl | rfl
      · exact ⟨d1, g1.kp hw2 k3, ho _ _ (by decide) (by decide)⟩
      · exact ⟨_, .int _ (by decide) (by decide), by decide⟩
      · exact ⟨_, .int _ (by decide) (by decide), by decide⟩
    have T3 := tabs_fr (tabs_same T2 sG3) (hw2.same sG3) f3
    have g1 := g1.kp hw2 k3
    have K3 := K2.trans k3
    clear K2 T2 k3 hbv f3 eG3 sG3 hG3 n3 hw2
    rw [hr1]
    clear hr1 r1
    -- due
    refine seq_step fun r1 hr1 => ?_
    walk_at "rd"
    obtain ⟨a1, a2, a3, a4⟩ := g1.rep (K := K)
    refine ⟨d1, a1, a2, a3, a4, fun p4 n4 => ?_⟩
    obtain ⟨G4, hG4, sG4, eG4⟩ := new_at (o := .tup [.str "number", .str d1.shown, .bl true]) n4
    rw [← hG4]
    have T4 := tabs_same T3 sG4
    have g1 := g1.kp hw3 (.same sG4)
    have g2 := g2.kp hw3 (.same sG4)
    have K4 := K3.trans (.same sG4)
    have hw4 := hw3.same sG4
    clear K3 T3 hw3 sG4 hG4 n4 a1 a2 a3 a4
    rw [hr1]
    clear hr1 r1
    -- number_word
    refine seq_step fun r1 hr1 => ?_
    walk_at "rd"
    refine told_num (by rfl) g1 (ho _ _ (by decide) (by decide)) T4 fun H5 p5 e5 T5 h5 => ?_
    obtain ⟨da, db, x1, x2, x3, x4, x5⟩ := eq_tup3 (K := K) h5 (e5 _ _ eG4 fun _ z => nomatch z) (by decide +kernel) g1.text
    refine ⟨da, db, x1, x2, x3, x4, false, by rw [x5]; rfl, ?_⟩
    rw [if_neg (by decide)]
    have g1 := g1.ext e5
    have g2 := g2.ext e5
    have hw5 := hw4.ext e5
    have K5 := K4.trans (.ext e5)
    clear x1 x2 x3 x4 x5 h5 e5 K4 hw4 T4 eG4
    rw [hr1]
    clear hr1 r1
    -- due
    refine seq_step fun r1 hr1 => ?_
    walk_at "rd"
    obtain ⟨a1, a2, a3, a4⟩ := g2.rep (K := K)
    refine ⟨d2, a1, a2, a3, a4, fun p6 n6 => ?_⟩
    obtain ⟨G6, hG6, sG6, eG6⟩ := new_at (o := .tup [.str "number", .str d2.shown, .bl true]) n6
    rw [← hG6]
    have T6 := tabs_same T5 sG6
    have g1 := g1.kp hw5 (.same sG6)
    have g2 := g2.kp hw5 (.same sG6)
    have K6 := K5.trans (.same sG6)
    have hw6 := hw5.same sG6
    clear K5 T5 hw5 sG6 hG6 n6 a1 a2 a3 a4
    rw [hr1]
    clear hr1 r1
    -- address_word
    refine seq_step fun r1 hr1 => ?_
    walk_at "rd"
    refine told_num (by rfl) g2 hb T6 fun H7 p7 e7 T7 h7 => ?_
    obtain ⟨da, db, x1, x2, x3, x4, x5⟩ := eq_tup3 (K := K) h7 (e7 _ _ eG6 fun _ z => nomatch z) (by decide +kernel) g2.text
    refine ⟨da, db, x1, x2, x3, x4, false, by rw [x5]; rfl, ?_⟩
    rw [if_neg (by decide)]
    have g1 := g1.ext e7
    have g2 := g2.ext e7
    have hw7 := hw6.ext e7
    have K7 := K6.trans (.ext e7)
    have eG7 := e7 _ _ eG6 fun _ z => nomatch z
    clear x1 x2 x3 x4 x5 h7 e7 K6 hw6 T6 eG6
    rw [hr1]
    clear hr1 r1
    -- mark_word
    refine seq_step fun r1 hr1 => ?_
    walk_at "rd"
    refine told_num (by rfl) g2 hb T7 fun H8 p8 e8 T8 h8 => ?_
    obtain ⟨da, db, x1, x2, x3, x4, x5⟩ := eq_tup3 (K := K) h8 (e8 _ _ eG7 fun _ z => nomatch z) (by decide +kernel) g2.text
    refine ⟨da, db, x1, x2, x3, x4, false, by rw [x5]; rfl, ?_⟩
    rw [if_neg (by decide)]
    have g1 := g1.ext e8
    have hw8 := hw7.ext e8
    have K8 := K7.trans (.ext e8)
    clear x1 x2 x3 x4 x5 h8 e8 K7 hw7 T7 eG7 g2
    rw [hr1]
    clear hr1 r1
    -- fields
    refine seq_step fun r1 hr1 => ?_
    walk_at "rd"
    refine ⟨w, rfl, hw8, fun wd H9 wd0 wdh hw9 f9 => fun p9 n9 => ?_⟩
    obtain ⟨G9, hG9, sG9, eG9⟩ := new_at (o := .tup [ov, .int 0, .int 1, .int 2, .int 3, .int wd, .int (-1)]) n9
    rw [← hG9]
    refine ⟨w, p9, _, rfl, hw9.same sG9, eG9, (by show 0 < 7; decide), (by show 7 < 1000; decide), fun fv H10 hfv hw10 f10 => ?_⟩
    have k10 : KpW w H8 H10 := ((KpW.fr f9).trans (.same sG9)).trans (.fr f10)
    have T10 := tabs_fr (tabs_same (tabs_fr T8 hw8 f9) sG9) (hw9.same sG9) f10
    have g1 := g1.kp hw8 k10
    have K10 := K8.trans k10
    obtain ⟨d3, g3⟩ : ∃ d, GvD H10 fv d := by
      simp only [List.mem_cons, List.not_mem_nil, or_false] at hfv
      rcases hfv with rfl | rfl | rfl | rfl | rfl | rfl | rfl
      · exact ⟨d1, g1⟩
      all_goals exact ⟨_, .int _ (by omega) (by omega)⟩
    clear hfv k10 T8 hw8 K8 f10 eG9 sG9 hG9 n9 f9 hw9
    rw [hr1]
    clear hr1 r1
    -- is it right?
    obtain ⟨s3, hs3⟩ := g3.ty
    clear hw2 hw hT ho hb g2
    refine seq_step fun r1 hr1 => ?_
    have st1 : ∀ x6 : Bool, x6 = within fv 1 999999999 → r1 { nx := fun _ H' => Q .non H', rt := Q } [some (.ref w), some ov, some (.str kx), some bv, some (.ref p6), some fv, some (.bl x6), none, none] H10 := fun x6 hx6 => by
      rw [hr1]
      clear hr1 r1
      refine seq_step fun r1 hr1 => ?_
      have st2 : ∀ x6 : Bool, x6 = (within fv 1 999999999 && hasV kx fv) → r1 { nx := fun _ H' => Q .non H', rt := Q } [some (.ref w), some ov, some (.str kx), some bv, some (.ref p6), some fv, some (.bl x6), none, none] H10 := fun x6 hx6 => by
        rw [hr1]
        clear hr1 r1
        -- due
        refine seq_step fun r1 hr1 => ?_
        walk_at "rd"
        obtain ⟨a1, a2, a3, a4⟩ := g3.rep (K := K)
        refine ⟨d3, a1, a2, a3, a4, fun p4 n4 => ?_⟩
        obtain ⟨G4, hG4, sG4, eG4⟩ := new_at (o := .tup [.str "number", .str d3.shown, .bl true]) n4
        rw [← hG4]
        rw [hr1]
        clear hr1 r1
        refine seq_step fun r1 hr1 => ?_
        have st3 : ∀ p4 G, Same H10 G → (x6 = true → ∃ n, fv = .int n ∧ G p4 = some (.tup [.str "told", .int (4 * (8 * n + (if kx = "closure" then 0 else if kx = "pair" then 1 else 2)) + 3)])) → (x6 = false → G p4 = some (.tup [.str "number", .str d3.shown, .bl true])) →
            r1 { nx := fun _ H' => Q .non H', rt := Q } [some (.ref w), some ov, some (.str kx), some bv, some (.ref p4), some fv, some (.bl x6), none, none] G := fun p4 G sG c1 c2 => by
          have g1 := g1.kp hw10 (.same sG)
          have g3 := g3.kp hw10 (.same sG)
          have K11 := K10.trans (.same sG)
          have hw11 := hw10.same sG
          have T11 := tabs_same T10 sG
          rw [hr1]
          clear hr1 r1
          refine seq_step fun r1 hr1 => ?_
          have st4 : ∀ p7 G7, ExtN G G7 → Tabs (Tbs (tabA K)) G7 → (∃ d e, Dp K G7 (.ref p7) d ∧ Dp K G7 (.ref p4) e ∧ SeqAt.shaped d = true ∧ SeqAt.shaped e = true ∧ PyData.eqv d e = true) → (x6 = true → ∃ y n, G7 p7 = some (.tup [y, .int n])) →
              r1 { nx := fun _ H' => Q .non H', rt := Q } [some (.ref w), some ov, some (.str kx), some bv, some (.ref p4), some fv, some (.bl x6), some (.ref p7), none] G7 := fun p7 G7 e7 T7 heq hx7 => by
            have g1 := g1.ext e7
            have g3 := g3.ext e7
            have K12 := K11.trans (.ext e7)
            have hw12 := hw11.ext e7
            rw [hr1]
            clear hr1 r1
            refine seq_step fun r1 hr1 => ?_
            have fin : r1 { nx := fun _ H' => Q .non H', rt := Q } [some (.ref w), some ov, some (.str kx), some bv, some (.ref p4), some fv, some (.bl x6), some (.ref p7), none] G7 := by
              rw [hr1]
              clear hr1 r1
              refine seq_step fun r1 hr1 => ?_
              walk_at "rd"
              intro p8 n8
              obtain ⟨G8, hG8, sG8, eG8⟩ := new_at (o := .tup [ov, .str "number", .str "Pair", .str "closures", .str "", .str "mark"]) n8
              rw [← hG8]
              refine ⟨w, p8, _, rfl, hw12.same sG8, eG8, (by show 0 < 6; decide), (by show 6 < 1000; decide), fun nv H9 hnv hw9 f9 => ?_⟩
              have k13 : KpW w G7 H9 := (KpW.same sG8).trans (.fr f9)
              have T13 := tabs_fr (tabs_same T7 sG8) (hw12.same sG8) f9
              have g3 := g3.kp hw12 k13
              have K13 := K12.trans k13
              obtain ⟨d5, g5⟩ : ∃ d, GvD H9 nv d := by
                simp only [List.mem_cons, List.not_mem_nil, or_false] at hnv
                rcases hnv with rfl | rfl | rfl | rfl | rfl | rfl
                · exact ⟨d1, g1.kp hw12 k13⟩
                all_goals exact ⟨_, .str _ (by decide +kernel)⟩
              rw [hr1]
              clear hr1 r1
              walk_at "rd"
              refine told_name (by rfl) (by rfl) g5.no_kind g5 g3 T13 fun H14 p14 e14 T14 h14 => ?_
              have g5' := g5.ext e14
              obtain ⟨a1, a2, a3, a4⟩ := g5'.rep (K := K)
              refine ⟨d5, a1, a2, a3, a4, fun p15 n15 => ?_⟩
              have s15 := same_upd (o := .tup [.str "name", .str d5.shown, .bl true]) n15
              obtain ⟨da, db, x1, x2, x3, x4, x5⟩ := eq_tup3 (K := K) (s15 _ _ h14) upd_same (by decide +kernel) g5'.text
              refine ⟨da, db, x1, x2, x3, x4, ?_⟩
              rw [x5]
              exact q _ ((hw9.ext e14).same s15) (tabs_same T14 s15) ((K13.trans (.ext e14)).trans (.same s15))
            walk_at "rd"
            obtain ⟨da, db, x1, x2, x3, x4, x5⟩ := heq
            refine ⟨da, db, x1, x2, x3, x4, false, by rw [x5]; rfl, ?_⟩
            rw [if_neg (by decide)]
            cases x6 with
            | false => rw [if_neg (by decide)]; exact fin
            | true =>
              obtain ⟨y, n, h⟩ := hx7 rfl
              rw [if_pos rfl]
              simp only [h, at1]
              exact ⟨_, rfl, by rw [if_neg (by decide)]; exact fin⟩
          walk_at "rd"
          refine told_head (by rfl) (by rfl) hkx g3 T11 (fun z H2 p e T h => ?_) (fun n e hw hf H2 p e2 T h => ?_)
          · have hx : x6 = false := by
              rw [hx6]
              rcases z with z | ⟨n, rfl, z⟩
              · rw [z]; rfl
              · show (_ && hasF kx n) = false
                rw [z, Bool.and_false]
            refine st4 p H2 e T ?_ fun z => by rw [hx] at z; cases z
            exact eq_tup3 h (e _ _ (c2 hx) fun _ z => nomatch z) (by decide +kernel) g3.text
          · have hx : x6 = true := by
              rw [hx6, hw, e]
              exact hf
            obtain ⟨n', e', c⟩ := c1 hx
            have en : n = n' := V.int.inj (e.symm.trans e')
            subst en
            refine st4 p H2 e2 T ?_ fun _ => ⟨_, _, h⟩
            exact eq_tup2 h (e2 _ _ c fun _ z => nomatch z) (by decide +kernel)
        cases x6 with
        | false =>
          walk_at "rd"
          exact st3 p4 G4 sG4 (fun z => nomatch z) fun _ => eG4
        | true =>
          obtain ⟨n, rfl⟩ : ∃ n, fv = .int n := by
            cases hv : within fv 1 999999999 with
            | false => rw [hv] at hx6; cases hx6
            | true => obtain ⟨n, e, _⟩ := within_int hv; exact ⟨n, e⟩
          have fin2 : ∀ p, G4 p = none → ∀ m, m = 4 * (8 * n + (if kx = "closure" then 0 else if kx = "pair" then 1 else 2)) + 3 →
              r1 { nx := fun _ H' => Q .non H', rt := Q } [some (.ref w), some ov, some (.str kx), some bv, some (.ref p), some (.int n), some (.bl true), none, none] (upd G4 p (.tup [.str "told", .int m])) := fun p np m hm =>
            st3 p _ (sG4.trans (same_upd np)) (fun _ => ⟨n, rfl, by rw [upd_same, hm]⟩) (fun z => nomatch z)
          walk_at "rd"
          by_cases hk1 : kx = "closure"
          · rw [if_pos hk1]
            exact fun p np => fin2 p np _ (by rw [if_pos hk1]; omega)
          · rw [if_neg hk1]
            by_cases hk2 : kx = "pair"
            · rw [if_pos hk2]
              exact fun p np => fin2 p np _ (by rw [if_neg hk1, if_pos hk2]; omega)
            · rw [if_neg hk2]
              exact fun p np => fin2 p np _ (by rw [if_neg hk1, if_neg hk2]; omega)
      cases hq : within fv 1 999999999 with
      | false =>
        rw [hq] at hx6
        subst hx6
        walk_at "rd"
        exact st2 false (by rw [hq]; rfl)
      | true =>
        rw [hq] at hx6
        subst hx6
        obtain ⟨n, rfl, n0, n1⟩ := within_int hq
        have hk : kx = "closure" ∨ kx = "pair" ∨ kx = "box" := by
          unfold kinds at hkx
          simpa only [List.mem_cons, List.not_mem_nil, or_false] using hkx
        rcases hk with rfl | rfl | rfl
        · walk_at "rd"
          refine st2 true ?_
          rw [hq]
          show true = (true && hasF "closure" n)
          rw [hasF_clo, decide_eq_true n0, decide_eq_true n1]
          rfl
        · walk_at "rd"
          rw [if_pos (by decide +kernel)]
          refine st2 _ ?_
          rw [hq]
          show _ = (true && hasF "pair" n)
          rw [hasF_pair, Bool.true_and]
        · walk_at "rd"
          rw [if_pos (by decide +kernel), if_neg (by decide +kernel)]
          refine st2 _ ?_
          rw [hq]
          show _ = (true && hasF "box" n)
          rw [hasF_box, Bool.true_and]
    clear g3 hw10 T10 g1 K10
    cases fv with
    | int i =>
      walk_at "rd"
      by_cases h : 0 < i
      · rw [if_pos h]
        refine st1 _ ?_
        unfold within
        rw [Bool.eq_iff_iff, Bool.and_eq_true, decide_eq_true_eq, decide_eq_true_eq, decide_eq_true_eq]
        omega
      · rw [if_neg h]
        refine st1 _ ?_
        unfold within
        rw [eq_comm, Bool.and_eq_false_iff, decide_eq_false_iff_not, decide_eq_false_iff_not]
        omega
    | ref a =>
      have h2 : isOf s3 "int" = false := by
        unfold tyN at hs3
        dsimp only at hs3
        split at hs3 <;> cases hs3 <;> decide
      exact ⟨_, rfl, s3, hs3, by decide, false, by rw [h2], iteF (st1 false rfl)⟩
    | _ => first | (walk_at "rd"; exact st1 _ rfl) | cases hs3
end
end K42
set_option maxHeartbeats 4000000
namespace K42
open PySem PySem.Spec PyProof.Rows L2 FS
open He (ga ma)
open LamX (TabB Tabs ExtN)
local macro_rules | `(tactic| walk_at "rd") => `(tactic| simp only [tSeq, tIfS, tNext, tRet, tAsg, tDrop, tPar, gName, gTup, gCons, gNil, gSub, tAnd, tOr, tNot, tB, tTest, tIf, tAndV, tOrV, tNotV, tCB, tCons, tNil, tVar, tC, tOp, tUn, rU, rI, rI0, rEq, rNe, CMul, CDiv, CPow, tTup, tLst, tDNewK, rIsiN, rInt1, tChain, tCall, tRaise1, rIxT, rIxL, rIxA, rSetA, gTupA, rLenA, seqO, at0, at1, at2, ix0, ix1, ix2, upd_same, upd_upd,
  L2.start, List.map_cons, List.map_nil, List.length_cons, List.length_nil, List.cons_append, List.nil_append, List.append_nil, List.replicate_succ, List.replicate_zero, Nat.reduceAdd, Nat.reduceSub, List.set_cons_zero, List.set_cons_succ,
  List.getElem?_cons_zero, List.getElem?_cons_succ, Option.some.injEq, exists_eq_left', exists_eq_left, V.int.injEq, V.bl.injEq, V.str.injEq, V.ref.injEq, V.ty.injEq, List.cons.injEq, reduceCtorEq, false_and, exists_false, true_and, and_true, decide_eq_true_eq, Bool.not_eq_true', decide_eq_false_iff_not, exists_const, and_assoc, exists_and_left, Int.reducePow, Int.reduceLE, Int.reduceToNat, nab10, Int.reduceMul, Int.reduceSub, Int.reduceAdd, Nat.reducePow, Nat.reduceLT, Int.reduceNeg, Int.reduceLT, or_true, true_or, sizeLine_eq, Nat.reduceLeDiff, ne_eq, not_false_eq_true, tyN, isOf, scal, m_int, m_bool, m_str, m_tup, cxK, cxKn, String.reduceBEq, Bool.true_or, Bool.or_true, Bool.or_false, Bool.false_or, Bool.and_true, Bool.true_and, Bool.false_and, Bool.and_false, Bool.not_true, Bool.not_false, Bool.false_eq_true, ↓reduceIte, not_true_eq_false, not_false_eq_true])

section
variable {P : Program} {w : World} {K : PySem.W.Frag} {mg : Str → Option Value} {base : Heap}
def sp_law (K : PySem.W.Frag) : Sp := fun vs H Q _ => ∃ (a : Addr) (ns : List Int), vs = [.ref a] ∧ SqL K H a (ns.map V.int) ∧ Tabs (Tbs (tabA K)) H ∧ ∀ H', Q (.bl true) H'
theorem sq_new {H : Hp} {a p : Addr} {xs : List V} (h : SqL K H a xs) (np : H p = none) : a ≠ p ∨ ∀ H', SqL K H' a xs := by
  rcases h with (h | ⟨o, h⟩) | h
  · exact .inl fun z => by rw [z, np] at h; cases h
  · exact .inl fun z => by rw [z, np] at h; cases h
  · exact .inr fun _ => .inr h
theorem sq_kp {H H' : Hp} {a w : Addr} {xs : List V} (h : SqL K H a xs) (n : a ≠ w ∨ ∀ H', SqL K H' a xs) (f : KpW w H H') : SqL K H' a xs := by
  rcases n with n | n
  · rcases h with (h | ⟨o, h⟩) | h
    · exact .inl (.inl (f _ _ n (fun _ z => nomatch z) h))
    · exact .inl (.inr ⟨o, f _ _ n (fun _ z => nomatch z) h⟩)
    · exact .inr h
  · exact n _
theorem ok_law (T : Tx K mg) (TB : TabB base mg (He.cT K ("_law_is_refused", none)).1 (He.cT K ("_law_is_refused", none)).2) : FnG P w K mg base CX0 8 (ga K "law") T.fd_law ["_law_script"] (sp_law K) := by
  refine okG T.F_law sc_law (fun vs H Q E h => ?_) (fun cdv A outer s H vs Q E hgd hr hcd h => ⟨_, (pss_cons (ps_for PassesOwn.never rfl (pi_range1 rfl T.n_range (pa_cons (pe_callB (call_max2 rfl) (by rfl) T.n_max (by decide +kernel) (pa_cons pe_int (pa_cons (pe_callB (call_min2 rfl) (by rfl) T.n_min (by decide +kernel) (pa_cons (pe_callB call_len_seq (by rfl) T.n_len (by decide +kernel) (pa_cons (pv 0) pa_nil)) (pa_cons pe_int pa_nil))) pa_nil))) pa_nil)) (pg_name (i := 1) sc_law.nd rfl (Or.inl rfl)) (pss_cons (ps_set (i := 2) sc_law.nd rfl (Or.inl rfl) (pe_call (ok__law_well T) (hr.mono (by decide)) (by rfl) T.mg__law_well T.F__law_well.kp T.b__law_well .nil pass0 (pa_cons (pv 0) (pa_cons (pv 1) pa_nil))))
    (pss_one (ps_for PassesOwn.never rfl (pi_range1 rfl T.n_range (pa_cons pe_int pa_nil)) (pg_name (i := 3) sc_law.nd rfl (Or.inl rfl)) (pss_one (ps_if (PW.pt (pw_or (pt_not (pt_val (pe_call (ok__law_is_right T) (hr.mono (by decide)) (by rfl) T.mg__law_is_right T.F__law_is_right.kp T.b__law_is_right .nil pass0 (pa_cons (pv 2) pa_nil)))) (pw_or1 (pt_not (pt_val (pe_callG (ok__law_is_refused T TB) hgd hr (by rfl) T.mg__law_is_refused T.F__law_is_refused.kp T.b__law_is_refused pass0 (pa_cons (pv 2) pa_nil))))))) (pss_one (ps_ret pe_bl)) pss_nil))))))
    (pss_one (ps_ret pe_bl))), ?_⟩)
  · obtain ⟨a, ns, rfl, _⟩ := h
    rfl
  · obtain ⟨a, ns, rfl, hS, hT, q⟩ := h
    have hm : ∀ l : Int, 0 ≤ l → -(2 ^ 62) ≤ (if (if 5 < l then 5 else l) > 1 then (if 5 < l then 5 else l) else 1 : Int) ∧ (if (if 5 < l then 5 else l) > 1 then (if 5 < l then 5 else l) else 1 : Int) < 2 ^ 62 := fun l h => by
      split <;> split <;> omega
    obtain ⟨m1, m2⟩ := hm ((ns.map V.int).length : Int) (by omega)
    refine ⟨.ref a, rfl, a, _, rfl, .inl hS, _, _, rfl, _, _, rfl, _, rfl, m1, m2, ?_⟩
    refine for_range (fun i σ H' => (∃ y1 y2 y3 : Option V, σ = [some (.ref a), y1, y2, y3]) ∧ SqL K H' a (ns.map V.int) ∧ Tabs (Tbs (tabA K)) H') ⟨⟨_, _, _, rfl⟩, hS, hT⟩ ?_ ?_
    · rintro i σ H' _ ⟨⟨y1, y2, y3, rfl⟩, hS, hT⟩
      refine ⟨_, rfl, _, rfl, a, ns, _, rfl, hS, by omega, fun p H1 s1 np hw1 => ?_⟩
      have hn := sq_new hS np
      have hS1 := sq_kp (w := p) hS hn (.same s1)
      have hT1 := tabs_same hT s1
      refine ⟨2, rfl, by decide, by decide, ?_⟩
      refine for_range (fun i σ H' => (∃ y1 y3 : Option V, σ = [some (.ref a), y1, some (.ref p), y3]) ∧ SqL K H' a (ns.map V.int) ∧ Tabs (Tbs (tabA K)) H' ∧ IsW H' p) ⟨⟨_, _, rfl⟩, hS1, hT1, hw1⟩ ?_ ?_
      · rintro i σ H2 _ ⟨⟨y1, y3, rfl⟩, hS2, hT2, hw2⟩
        refine ⟨_, rfl, p, rfl, hw2, fun H3 hw3 f3 => ?_⟩
        have hT3 := tabs_fr hT2 hw2 f3
        have hS3 := sq_kp hS2 hn (.fr f3)
        refine ⟨true, rfl, _, rfl, p, rfl, hw3, hT3, fun H4 hw4 hT4 k4 => ?_⟩
        have hS4 := sq_kp hS3 hn k4
        exact ⟨true, rfl, ⟨_, _, rfl⟩, hS4, hT4, hw4⟩
      · rintro σ H2 ⟨⟨y1, y3, rfl⟩, hS2, hT2, hw2⟩
        exact ⟨⟨_, _, _, rfl⟩, hS2, hT2⟩
    · rintro σ H2 ⟨⟨y1, y2, y3, rfl⟩, hS2, hT2⟩
      exact q _
end
end K42
set_option maxHeartbeats 4000000
namespace K42
open PySem PySem.Spec PyProof.Rows L2 FS
open He (ga ma)
/-! ### the head: facts by names -/
abbrev dd (x : Str) (st : Stmt) : He.DefD := ⟨(x, none), x, x, defArgs st, defBody st, defScope st, [], []⟩
abbrev di (c q : Str) (st : Stmt) : He.DefD := ⟨(c, some "__init__"), "__init__", q, defArgs st, defBody st, defScope st, [], []⟩
def fn : List He.DefD := [di "InvalidNumber" "InvalidNumber.__init__" s_init1, di "InvalidName" "InvalidName.__init__" s_init2, dd "is_within" s_is_within, dd "check_within" s_check_within, dd "has_fields" s_has_fields, dd "read" s_read, dd "read_word" s_read_word, dd "number_word" s_number_word, dd "address_word" s_address_word, dd "mark_word" s_mark_word, dd "check_name" s_check_name, dd "header_word" s_header_word, dd "_law_well" s__law_well, dd "_law_draw" s__law_draw, dd "_law_pick" s__law_pick, dd "_law_same" s__law_same, dd "_law_read" s__law_read, dd "_law_wide" s__law_wide, dd "_law_odd" s__law_odd, dd "_law_told" s__law_told, dd "_law_any_word" s__law_any_word, dd "_law_is_right" s__law_is_right, dd "_law_is_refused" s__law_is_refused, dd "law" s_law]
def frees : List Str := ["isinstance", "int", "bool", "str", "tuple", "len", "all", "zip", "abs", "divmod", "max", "min", "range", "repr"]
def globs : List Str := ["KINDS", "FormError", "InvalidNumber", "InvalidName", "is_within", "check_within", "has_fields", "read", "read_word", "number_word", "address_word", "mark_word", "check_name", "header_word", "_law_well", "_law_draw", "_law_pick", "_law_same", "_law_read", "_law_wide", "_law_odd", "_law_told", "_law_any_word", "_law_is_right", "_law_is_refused", "law"]
def fa : List He.Fa := .int "MOST" 999999999 :: (frees.map He.Fa.free ++ globs.map He.Fa.glo)
def bareB (K : PySem.W.Frag) (a : Addr) : Bool := match K.lookup a with
  | some ⟨.type c, none, _, _⟩ => decide (c = "tuple")
  | _ => false
theorem bareB_ok {K : PySem.W.Frag} {a : Addr} (h : bareB K a = true) : ∃ o, K.lookup a = some o ∧ o.cls = .type "tuple" ∧ o.dict = none := by
  unfold bareB at h
  split at h
  · rename_i c dt sl e
    exact ⟨_, e, congrArg Value.type (of_decide_eq_true h), rfl⟩
  · cases h
def exB (K : PySem.W.Frag) : Bool :=
  excB K (ga K "InvalidNumber") "given" && (excB K (ga K "InvalidName") "given" && (bareB K (ga K "KINDS") && (He.tupB K "KINDS" [.str "closure", .str "pair", .str "box"] && (
  decide (PySem.W.exmOne K (.ref (ga K "InvalidNumber")) (.ref (ga K "InvalidNumber")) = some true) && (decide (PySem.W.exmOne K (.ref (ga K "InvalidName")) (.ref (ga K "InvalidNumber")) = some false) && (decide (PySem.W.exmOne K (.ref (ga K "InvalidName")) (.ref (ga K "InvalidName")) = some true) && (
  decide (PySem.W.kitOne K (.ref (ga K "InvalidNumber")) (.ref (ga K "FormError")) = some true) && (decide (PySem.W.kitOne K (.ref (ga K "InvalidNumber")) (.ref (ga K "InvalidName")) = some false) && decide (PySem.W.kitOne K (.ref (ga K "InvalidName")) (.ref (ga K "FormError")) = some true)))))))))
def tf : List He.Defn := [("_law_is_refused", none)]
theorem free_in {x : Str} (h : x ∈ frees) : He.Fa.free x ∈ fa := List.mem_cons_of_mem _ (List.mem_append_left _ (List.mem_map_of_mem h))
theorem glob_in {x : Str} (h : x ∈ globs) : He.Fa.glo x ∈ fa := List.mem_cons_of_mem _ (List.mem_append_right _ (List.mem_map_of_mem h))
theorem tx {K : PySem.W.Frag} {mg : Str → Option Value} {h : Heap} {w : World} (X : K.In h) (G : h.Ns mainGlobals mg) (c : He.SaysX fa fn [] tf exB w h K) :
    ∃ T : Tx K mg, ∀ (s : Shared) (v : Value), BindsTo s T.fd_law ⟨[v], []⟩ [("_law_script", v)] := by
  have F : ∀ x, x ∈ frees → mg x = none := fun x hx => He.free_ok X G (c.t.d.facts (free_in hx))
  have O : ∀ x, x ∈ globs → mg x = some (.ref (ga K x)) := fun x hx => He.glo_ok X G (c.t.d.facts (glob_in hx))
  obtain ⟨tk, hM⟩ := He.int_ok X G (c.t.d.fact 0 (f := .int "MOST" 999999999) rfl)
  obtain ⟨b1, q⟩ := He.ba c.more
  obtain ⟨b2, q⟩ := He.ba q
  obtain ⟨b3, q⟩ := He.ba q
  obtain ⟨b4, q⟩ := He.ba q
  obtain ⟨b5, q⟩ := He.ba q
  obtain ⟨b6, q⟩ := He.ba q
  obtain ⟨b7, q⟩ := He.ba q
  obtain ⟨b8, q⟩ := He.ba q
  obtain ⟨b9, b10⟩ := He.ba q
  obtain ⟨fdI1, FI1⟩ := c.t.d.def_ 0 (d := di "InvalidNumber" "InvalidNumber.__init__" s_init1) rfl
  obtain ⟨fdI2, FI2⟩ := c.t.d.def_ 1 (d := di "InvalidName" "InvalidName.__init__" s_init2) rfl
  obtain ⟨fd_is_within, F_is_within⟩ := c.t.d.def_ 2 (d := dd "is_within" s_is_within) rfl
  obtain ⟨fd_check_within, F_check_within⟩ := c.t.d.def_ 3 (d := dd "check_within" s_check_within) rfl
  obtain ⟨fd_has_fields, F_has_fields⟩ := c.t.d.def_ 4 (d := dd "has_fields" s_has_fields) rfl
  obtain ⟨fd_read, F_read⟩ := c.t.d.def_ 5 (d := dd "read" s_read) rfl
  obtain ⟨fd_read_word, F_read_word⟩ := c.t.d.def_ 6 (d := dd "read_word" s_read_word) rfl
  obtain ⟨fd_number_word, F_number_word⟩ := c.t.d.def_ 7 (d := dd "number_word" s_number_word) rfl
  obtain ⟨fd_address_word, F_address_word⟩ := c.t.d.def_ 8 (d := dd "address_word" s_address_word) rfl
  obtain ⟨fd_mark_word, F_mark_word⟩ := c.t.d.def_ 9 (d := dd "mark_word" s_mark_word) rfl
  obtain ⟨fd_check_name, F_check_name⟩ := c.t.d.def_ 10 (d := dd "check_name" s_check_name) rfl
  obtain ⟨fd_header_word, F_header_word⟩ := c.t.d.def_ 11 (d := dd "header_word" s_header_word) rfl
  obtain ⟨fd__law_well, F__law_well⟩ := c.t.d.def_ 12 (d := dd "_law_well" s__law_well) rfl
  obtain ⟨fd__law_draw, F__law_draw⟩ := c.t.d.def_ 13 (d := dd "_law_draw" s__law_draw) rfl
  obtain ⟨fd__law_pick, F__law_pick⟩ := c.t.d.def_ 14 (d := dd "_law_pick" s__law_pick) rfl
  obtain ⟨fd__law_same, F__law_same⟩ := c.t.d.def_ 15 (d := dd "_law_same" s__law_same) rfl
  obtain ⟨fd__law_read, F__law_read⟩ := c.t.d.def_ 16 (d := dd "_law_read" s__law_read) rfl
  obtain ⟨fd__law_wide, F__law_wide⟩ := c.t.d.def_ 17 (d := dd "_law_wide" s__law_wide) rfl
  obtain ⟨fd__law_odd, F__law_odd⟩ := c.t.d.def_ 18 (d := dd "_law_odd" s__law_odd) rfl
  obtain ⟨fd__law_told, F__law_told⟩ := c.t.d.def_ 19 (d := dd "_law_told" s__law_told) rfl
  obtain ⟨fd__law_any_word, F__law_any_word⟩ := c.t.d.def_ 20 (d := dd "_law_any_word" s__law_any_word) rfl
  obtain ⟨fd__law_is_right, F__law_is_right⟩ := c.t.d.def_ 21 (d := dd "_law_is_right" s__law_is_right) rfl
  obtain ⟨fd__law_is_refused, F__law_is_refused⟩ := c.t.d.def_ 22 (d := dd "_law_is_refused" s__law_is_refused) rfl
  obtain ⟨fd_law, F_law⟩ := c.t.d.def_ 23 (d := dd "law" s_law) rfl
  refine ⟨{
    n_isinstance := F _ (by decide +kernel), n_int := F _ (by decide +kernel), n_bool := F _ (by decide +kernel), n_str := F _ (by decide +kernel), n_tuple := F _ (by decide +kernel), n_len := F _ (by decide +kernel), n_all := F _ (by decide +kernel),
    n_zip := F _ (by decide +kernel), n_abs := F _ (by decide +kernel), n_divmod := F _ (by decide +kernel), n_max := F _ (by decide +kernel), n_min := F _ (by decide +kernel), n_range := F _ (by decide +kernel), n_repr := F _ (by decide +kernel)
    t_MOST := tk, mg_MOST := hM, mg_KINDS := O _ (by decide +kernel), sK := fun H => He.tupB_ok b4 H, sKd := bareB_ok b3
    mg_FormError := O _ (by decide +kernel), mg_InvalidNumber := O _ (by decide +kernel), mg_InvalidName := O _ (by decide +kernel), x1 := excB_ok b1, x2 := excB_ok b2
    e11 := of_decide_eq_true b5, e21 := of_decide_eq_true b6, e22 := of_decide_eq_true b7, k1F := of_decide_eq_true b8, k12 := of_decide_eq_true b9, k2F := of_decide_eq_true b10
    fdI1 := fdI1, FI1 := He5.fun_of FI1, bI1 := Fun.binds (x := "__init__") (qual := "InvalidNumber.__init__") (st := s_init1) (He5.fun_of FI1) fun _ _ _ _ _ _ us hl => match us, hl with | [_, _], _ => rfl
    fdI2 := fdI2, FI2 := He5.fun_of FI2, bI2 := Fun.binds (x := "__init__") (qual := "InvalidName.__init__") (st := s_init2) (He5.fun_of FI2) fun _ _ _ _ _ _ us hl => match us, hl with | [_, _], _ => rfl
    fd_is_within := fd_is_within, F_is_within := He5.fun_of F_is_within, mg_is_within := O _ (by decide +kernel), b_is_within := Fun.binds (x := "is_within") (qual := "is_within") (st := s_is_within) (He5.fun_of F_is_within) fun _ _ _ _ _ _ us hl => match us, hl with | [_, _, _], _ => rfl
    fd_check_within := fd_check_within, F_check_within := He5.fun_of F_check_within, mg_check_within := O _ (by decide +kernel), b_check_within := Fun.binds (x := "check_within") (qual := "check_within") (st := s_check_within) (He5.fun_of F_check_within) fun _ _ _ _ _ _ us hl => match us, hl with | [_, _, _], _ => rfl
    fd_has_fields := fd_has_fields, F_has_fields := He5.fun_of F_has_fields, mg_has_fields := O _ (by decide +kernel), b_has_fields := Fun.binds (x := "has_fields") (qual := "has_fields") (st := s_has_fields) (He5.fun_of F_has_fields) fun _ _ _ _ _ _ us hl => match us, hl with | [_, _], _ => rfl
    fd_read := fd_read, F_read := He5.fun_of F_read, mg_read := O _ (by decide +kernel), b_read := Fun.binds (x := "read") (qual := "read") (st := s_read) (He5.fun_of F_read) fun _ _ _ _ _ _ us hl => match us, hl with | [_], _ => rfl
    fd_read_word := fd_read_word, F_read_word := He5.fun_of F_read_word, mg_read_word := O _ (by decide +kernel), b_read_word := Fun.binds (x := "read_word") (qual := "read_word") (st := s_read_word) (He5.fun_of F_read_word) fun _ _ _ _ _ _ us hl => match us, hl with | [_], _ => rfl
    fd_number_word := fd_number_word, F_number_word := He5.fun_of F_number_word, mg_number_word := O _ (by decide +kernel), b_number_word := Fun.binds (x := "number_word") (qual := "number_word") (st := s_number_word) (He5.fun_of F_number_word) fun _ _ _ _ _ _ us hl => match us, hl with | [_], _ => rfl
    fd_address_word := fd_address_word, F_address_word := He5.fun_of F_address_word, mg_address_word := O _ (by decide +kernel), b_address_word := Fun.binds (x := "address_word") (qual := "address_word") (st := s_address_word) (He5.fun_of F_address_word) fun _ _ _ _ _ _ us hl => match us, hl with | [_], _ => rfl
    fd_mark_word := fd_mark_word, F_mark_word := He5.fun_of F_mark_word, mg_mark_word := O _ (by decide +kernel), b_mark_word := Fun.binds (x := "mark_word") (qual := "mark_word") (st := s_mark_word) (He5.fun_of F_mark_word) fun _ _ _ _ _ _ us hl => match us, hl with | [_], _ => rfl
    fd_check_name := fd_check_name, F_check_name := He5.fun_of F_check_name, mg_check_name := O _ (by decide +kernel), b_check_name := Fun.binds (x := "check_name") (qual := "check_name") (st := s_check_name) (He5.fun_of F_check_name) fun _ _ _ _ _ _ us hl => match us, hl with | [_, _], _ => rfl
    fd_header_word := fd_header_word, F_header_word := He5.fun_of F_header_word, mg_header_word := O _ (by decide +kernel), b_header_word := Fun.binds (x := "header_word") (qual := "header_word") (st := s_header_word) (He5.fun_of F_header_word) fun _ _ _ _ _ _ us hl => match us, hl with | [_, _], _ => rfl
    fd__law_well := fd__law_well, F__law_well := He5.fun_of F__law_well, mg__law_well := O _ (by decide +kernel), b__law_well := Fun.binds (x := "_law_well") (qual := "_law_well") (st := s__law_well) (He5.fun_of F__law_well) fun _ _ _ _ _ _ us hl => match us, hl with | [_, _], _ => rfl
    fd__law_draw := fd__law_draw, F__law_draw := He5.fun_of F__law_draw, mg__law_draw := O _ (by decide +kernel), b__law_draw := Fun.binds (x := "_law_draw") (qual := "_law_draw") (st := s__law_draw) (He5.fun_of F__law_draw) fun _ _ _ _ _ _ us hl => match us, hl with | [_, _], _ => rfl
    fd__law_pick := fd__law_pick, F__law_pick := He5.fun_of F__law_pick, mg__law_pick := O _ (by decide +kernel), b__law_pick := Fun.binds (x := "_law_pick") (qual := "_law_pick") (st := s__law_pick) (He5.fun_of F__law_pick) fun _ _ _ _ _ _ us hl => match us, hl with | [_, _], _ => rfl
    fd__law_same := fd__law_same, F__law_same := He5.fun_of F__law_same, mg__law_same := O _ (by decide +kernel), b__law_same := Fun.binds (x := "_law_same") (qual := "_law_same") (st := s__law_same) (He5.fun_of F__law_same) fun _ _ _ _ _ _ us hl => match us, hl with | [_, _], _ => rfl
    fd__law_read := fd__law_read, F__law_read := He5.fun_of F__law_read, mg__law_read := O _ (by decide +kernel), b__law_read := Fun.binds (x := "_law_read") (qual := "_law_read") (st := s__law_read) (He5.fun_of F__law_read) fun _ _ _ _ _ _ us hl => match us, hl with | [_], _ => rfl
    fd__law_wide := fd__law_wide, F__law_wide := He5.fun_of F__law_wide, mg__law_wide := O _ (by decide +kernel), b__law_wide := Fun.binds (x := "_law_wide") (qual := "_law_wide") (st := s__law_wide) (He5.fun_of F__law_wide) fun _ _ _ _ _ _ us hl => match us, hl with | [_], _ => rfl
    fd__law_odd := fd__law_odd, F__law_odd := He5.fun_of F__law_odd, mg__law_odd := O _ (by decide +kernel), b__law_odd := Fun.binds (x := "_law_odd") (qual := "_law_odd") (st := s__law_odd) (He5.fun_of F__law_odd) fun _ _ _ _ _ _ us hl => match us, hl with | [_], _ => rfl
    fd__law_told := fd__law_told, F__law_told := He5.fun_of F__law_told, mg__law_told := O _ (by decide +kernel), b__law_told := Fun.binds (x := "_law_told") (qual := "_law_told") (st := s__law_told) (He5.fun_of F__law_told) fun _ _ _ _ _ _ us hl => match us, hl with | [_], _ => rfl
    fd__law_any_word := fd__law_any_word, F__law_any_word := He5.fun_of F__law_any_word, mg__law_any_word := O _ (by decide +kernel), b__law_any_word := Fun.binds (x := "_law_any_word") (qual := "_law_any_word") (st := s__law_any_word) (He5.fun_of F__law_any_word) fun _ _ _ _ _ _ us hl => match us, hl with | [_], _ => rfl
    fd__law_is_right := fd__law_is_right, F__law_is_right := He5.fun_of F__law_is_right, mg__law_is_right := O _ (by decide +kernel), b__law_is_right := Fun.binds (x := "_law_is_right") (qual := "_law_is_right") (st := s__law_is_right) (He5.fun_of F__law_is_right) fun _ _ _ _ _ _ us hl => match us, hl with | [_], _ => rfl
    fd__law_is_refused := fd__law_is_refused, F__law_is_refused := He5.fun_of F__law_is_refused, mg__law_is_refused := O _ (by decide +kernel), b__law_is_refused := Fun.binds (x := "_law_is_refused") (qual := "_law_is_refused") (st := s__law_is_refused) (He5.fun_of F__law_is_refused) fun _ _ _ _ _ _ us hl => match us, hl with | [_], _ => rfl
    fd_law := fd_law, F_law := He5.fun_of F_law, mg_law := O _ (by decide +kernel), b_law := Fun.binds (x := "law") (qual := "law") (st := s_law) (He5.fun_of F_law) fun _ _ _ _ _ _ us hl => match us, hl with | [_], _ => rfl }, fun s v => ?_⟩
  exact FunD.bindsA (x := "law") (qual := "law") (params := defArgs s_law) (body := defBody s_law) (scope := defScope s_law) (ps := ["_law_script"]) F_law (fun _ _ _ _ _ _ us hl => match us, hl with | [_], _ => rfl) s [v] rfl
end K42
set_option maxHeartbeats 0
namespace K42
open PySem PySem.Spec PyProof.Rows L2 FS
/-! ### the head's run -/
abbrev R : PySem.W.OpenRow := PySem.W.OpenLaw.row PySem.Challenge.rw_formstead_k42_words_there_and_back
abbrev qv : Program := PySem.W.view R.prog [30]
abbrev hk : PySem.W.Hook := He.hookX 6 fa fn [] tf exB
def ob (s : PySem.W.SharedT) : He.AlX := He.obsX 6 fa fn [] tf exB (HandSHeadRun.getT s)
theorem ob_eq (s : PySem.W.SharedT) : ob s = hk.obs s.abs := He.obsX_eq (HandSHeadRun.getT_eq s)
def loose : List Str := ["MOST", "KINDS", "FormError", "InvalidNumber", "InvalidName", "is_within", "check_within", "has_fields", "read", "read_word", "number_word", "address_word", "mark_word", "check_name", "header_word", "_law_well", "_law_draw", "_law_pick", "_law_same", "_law_read", "_law_wide", "_law_odd", "_law_told", "_law_any_word", "_law_is_right", "_law_is_refused"]
theorem run (w : World) : HandSHeadRun.RunEq R qv hk ob 4000 loose w := by
  intro os
  kernel_rfl
end K42
set_option maxHeartbeats 0
open PySem PySem.W PySem.Calls PyProof.Rows
theorem PySem.Challenge.cw_formstead_k42_words_there_and_back_holds : PySem.Challenge.rw_formstead_k42_words_there_and_back.Holds := by
  w_on; o_law
  refine HandSHeadRun.head_any (r := OpenLaw.row PySem.Challenge.rw_formstead_k42_words_there_and_back) (q := K42.qv) (H := K42.hk) (ob := K42.ob) (M := 4000) (loose := K42.loose) (d := HandSHeadRun.topDef (OpenLaw.row PySem.Challenge.rw_formstead_k42_words_there_and_back).prog 30) (kwd := []) K42.ob_eq
    (by kernel_rfl) (fun s => by kernel_rfl) K42.run (by kernel_rfl) (by kernel_rfl) (by kernel_rfl) (by rfl) (by first | assumption | decide +kernel) (by decide +kernel) ⟨rfl, rfl, rfl, rfl, rfl, by decide +kernel⟩ ?hw ?hc
  case hw => w_witness2
  case hc =>
    refine FS.walk_GE (l := PySem.Challenge.rw_formstead_k42_words_there_and_back) (n := 63) (k := 8) (x := "_law_script") rfl (by decide) (by kernel_rfl) ⟨rfl, by decide, by decide⟩ ?F
    intro w mg fa h Y G hmg0
    obtain ⟨K, KX, c⟩ := Y
    have hmg : mg ("law" : PySem.Str) = some (.ref fa) := by
      have e : (HandSHeadRun.topDef (OpenLaw.row PySem.Challenge.rw_formstead_k42_words_there_and_back).prog 30).name = ("law" : PySem.Str) := by kernel_rfl
      rw [← e]
      exact hmg0
    obtain ⟨T, hb⟩ := K42.tx KX G c
    have ef : fa = He.ga K "law" := PySem.Value.ref.inj (Option.some.inj (hmg.symm.trans T.mg_law))
    subst ef
    have mT : (("_law_is_refused", none) : He.Defn) ∈ K42.tf := List.mem_singleton.mpr rfl
    refine ⟨K, KX, T.fd_law, [He.cT K ("_law_is_refused", none)], K42.sp_law K, fun p hp => ?_, fun p hp => ?_, fun p hp => ?_, hb, fun H a ns hl _ hcs hS => ?_, fun base KB hns hTB => ?_⟩
    · rw [List.mem_singleton.mp hp]; exact c.empty _ mT
    · rw [List.mem_singleton.mp hp]; exact c.out _ mT
    · rw [List.mem_singleton.mp hp]; exact codeHd_of_K KX (c.hd _ mT)
    · refine ⟨a, ns, rfl, hS, fun p hp => ?_, fun _ => rfl⟩
      rw [List.mem_singleton.mp hp]
      exact LamX.TabS.nil (hcs _ (List.mem_singleton.mpr rfl))
    · exact K42.ok_law T (hTB _ (List.mem_singleton.mpr rfl))
