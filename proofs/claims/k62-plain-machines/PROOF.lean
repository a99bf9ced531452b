import PyProof.Rows.All
import HandS.ForExc
import HandS.ForMost
import HandS.TryMany
import HandS.ExcInit
import HandS.ExcField
import HandS.IsInst
import HandS.Star
import HandS.RaiseMore
import HandS.Style
import HandS.Conv
import HandS.Zip
import KE.KExcSuper
import HandS.Iter
import HandS.Comp
import HandS.RevRange
import KE.GoesEnum
import KE.KRevIter
import HandS.TupAny
import HandS.Wide
import HandS.Text
import HandS.EndBits
import KE.BitLaws
import KE.KExcInit
import PyProof.ExcBaseAll.ValueError
import PyProof.InstStoreFacts
import HandS.ExcIs
import Wide.All
import OpenK.AllK
import Wide.FinOn
import PySem.Challenge.RW_veiledgates_k62_whole_plain_machines
set_option Elab.async false
set_option linter.all false
set_option maxRecDepth 100000
set_option maxHeartbeats 4000000
/-! Part A: rules of our own over the hand layer. -/
namespace VG
open PySem PySem.Spec PyProof.Rows L2

/-! ### a def that is only called where no guard runs (repr of lists wants that) -/
structure FnG (P : Program) (w : World) (K : PySem.W.Frag) (mg : Str → Option Value) (base : Heap) (CX : CXT) (k : Nat)
    (f : Addr) (fd : FuncData) (ps : List Str) (sp : Sp) : Prop where
  size : ∀ vs H Q E, sp vs H Q E → vs.length = ps.length
  go : ∀ (A : Around) (out : List Env) (s : Shared) (H : Hp) (args : Args) (us : List Value) (vs : List V) (Q : VK) (E : XK),
    A.guards = some [] → Room k A → Env0 P w K mg base A out s H → BindsTo s fd args (ps.zip us) → Vals vs us → sp vs H Q E →
    codeAny (model P w) A (.call (.ref f) args) (CR CX out P w H s Q E) s

theorem fn_ofG {CX : CXT} {P : Program} {w : World} {K : PySem.W.Frag} {mg : Str → Option Value} {base : Heap} {k : Nat} {f : Addr}
    {x qual : Str} {st : Stmt} {fd : FuncData} {N ps : List Str} {sp : Sp} (F : Fun K x qual st f fd) (S : FnScope N ps (defScope st))
    (len : ∀ vs H Q E, sp vs H Q E → vs.length = ps.length)
    (body : ∀ (cdv : Value) (A : Around) (out : List Env) (s : Shared) (H : Hp) (vs : List V) (Q : VK) (E : XK), A.guards = some [] →
      Room k (A.deeper (envOfC qual (defScope st) s.heap.objs.size f cdv)) → sp vs H Q E →
      ∃ t, PSs (cxOf CX P w K mg base N qual (defScope st) f cdv A out s H E) (defBody st) t ∧
        t { nx := fun _ H' => Q .non H', rt := Q } (start N vs) H) :
    FnG P w K mg base CX (k + 1) f fd ps sp := by
  obtain ⟨oc, od, kV, doc, pm, an, cdv, ct, osl, rfl, lk, hcd⟩ := F.ex
  refine ⟨len, fun A out s H args us vs Q E hgd hr e0 hb r hsp => ?_⟩
  have hl := len _ _ _ _ hsp
  have KX : K.In s.heap := e0.mod.kin.keeps fun b o z => (e0.bs b o z).1
  have lim : s.heap.NoLimit := e0.mod.nolimit.keeps fun b o z => (e0.bs b o z).1
  refine codeAny_call_function hr.depth (KX _ _ lk) rfl S.co S.gen rfl (PySem.W.codeRec_of KX hcd) (hb _ _ _ _ ?_)
  refine wpAny_newFunctionEnv_cells S.kind (fun y hy => ?_) fun env he s1 x1 => ?_
  · obtain ⟨n, v⟩ := y
    rcases S.par n (List.of_mem_zip hy).1 with q | q
    · exact .inl q
    · exact .inr ⟨q, PySem.W.cellsFrom_some _ _ _ (.inl q)⟩
  subst he
  refine ⟨lim.keeps x1.toInCall.keep, codeAny_func ?_⟩
  obtain ⟨t, ht, hq⟩ := body cdv A out s H vs Q E hgd (hr.deeper _) hsp
  refine wpAny_mono (ht.run [] s1 (start N vs) H _ (inv_start S hr.hd e0 hl r x1) hq) (fun fl s' hs => ?_) fun e s' hs => hs
  have fin : ∀ {σ' : L2.St} {H' : Hp} {v : V} {u : Value}, Inv (cxOf CX P w K mg base N qual (defScope st) f cdv A out s H E) [] σ' H' s' →
      RelV v u → Q v H' → CE out P w H s Q u s' :=
    fun {_ H' v _} J rv q => ⟨v, H', J.os, J.bare, J.base, J.hok, rv, q⟩
  cases fl with
  | ret u =>
    obtain ⟨v, σ', H', J, rv, q⟩ := hs
    exact fin J rv q
  | next =>
    obtain ⟨σ', H', J, q⟩ := hs
    exact fin (v := V.non) (u := Value.none) J rfl q
  | brk => exact False.elim hs.choose_spec.choose_spec.2
  | cont => exact False.elim hs.choose_spec.choose_spec.2

/-- the guards of the code that runs -/
theorem cx_guards {CX : CXT} {P : Program} {w : World} {K : PySem.W.Frag} {mg : Str → Option Value} {base : Heap} {N : List Str} {qual : Str} {sc : Scope}
    {f : Addr} {cd : Value} {A : Around} {out : List Env} {s : Shared} {H : Hp} {E : XK} (h : A.guards = some []) :
    (cxOf CX P w K mg base N qual sc f cd A out s H E).A.guards = some [] := h

section
variable {X : Cx} {CX : CXT} {k : Nat} {f : Addr} {fd : FuncData} {ps : List Str} {sp : Sp} {E : XK} {x : Str} {p pos : Pos} {e : Expr} {es : List Expr} {t : TA}
theorem pe_callG (F : FnG X.prog X.w X.K X.mg X.base CX k f fd ps sp) (hgd : X.A.guards = some []) (hr : Room k X.A) (hg : Gl X x) (hm : X.mg x = some (.ref f))
    (hk : PySem.W.keepIn X.K (.ref f) = true) (hb : Binds X.K fd ps []) (hx : Passes CX X E)
    (ha : PA X (e :: es) t) (hdb : (x == ("__debug__" : Str)) = false := by decide)
    (he : starEach (e :: es) X.env = (false, eval e X.env) :: starEach es X.env := by rfl)
    (hpl : (backTo pos (starEach es X.env)).any (·.1) = false := by rfl) :
    PE X (.Call (.Name x p) (e :: es) [] pos) (tCall sp [] E t) := by
  refine ⟨fun pins s σ H Q I h => wpAny_Call_Name_kw (ld_glob I hg hm ?_ hdb)⟩
  refine PySem.W.callWith_K (h₀ := X.base) I.ok.mod.kin hk (thn (ha.run pos pins s σ H _ I h) fun us s1 hh => ?_) he hpl
  obtain ⟨vs, H1, I1, r, q⟩ := hh
  rw [List.append_nil] at q
  have hl : us.length = ps.length := by rw [← r.length]; exact F.size _ _ _ _ q
  have b0 := hb s1 us I1.kIn (by rw [List.append_nil]; exact hl)
  rw [List.append_nil] at b0
  refine ⟨I1.kIn, wpAny_call (codeAny_mono (F.go X.A X.stack s1 H1 ⟨us, []⟩ us vs Q E hgd hr I1.env0 b0 r q) fun r' s' hq => ?_)⟩
  cases r' with
  | error e' => exact hx pins σ H1 s1 e' s' I1 hq
  | ok fl =>
    cases fl with
    | ret u => exact I1.after hq
    | next => exact False.elim hq
    | brk => exact False.elim hq
    | cont => exact False.elim hq
end

/-! ### repr -/
section
variable {X : Cx}
/-- data, or an empty dict -/
def Rp (K : PySem.W.Frag) (H : Hp) (v : V) (d : PyData) : Prop := (Dp K H v d ∧ d.hasDict = false) ∨ ∃ a, v = .ref a ∧ H a = some (.dK []) ∧ d = .dict []
/-- repr of data -/
def rRepr (K : PySem.W.Frag) : List V → Hp → VK → Prop := fun xs H Q => ∃ (x : V) (d : PyData), xs = [x] ∧ Rp K H x d ∧ d.showable = true ∧
  d.depth ≤ 60 ∧ d.shown.length ≤ sizeLine ∧ Q (.str d.shown) H
theorem call_reprD (hgd : X.A.guards = some []) (hu : X.A.units + 64 < cLine) : CallR X (.builtin "repr") (rRepr X.K) := by
  intro pins s σ H xs us Q I r h
  obtain ⟨x, d, rfl, hd0, sh, dp, sz, q⟩ := h
  obtain ⟨u, rfl, ru⟩ := vals1 r
  have fin : ∀ (h' : Heap) (tk : Nat) (u : Tok), (∀ b o, s.heap.get? b = some o → h'.get? b = some o) → EP X pins σ Q (.str d.shown u) { s with heap := h', toks := tk } :=
    fun h' tk u kk => ⟨.str d.shown, H, I.kept kk, ⟨u, rfl⟩, q⟩
  rcases hd0 with ⟨hd, nd⟩ | ⟨a, rfl, ha, rfl⟩
  rotate_left
  · cases ru
    obtain ⟨_, hs, vs, hv, o, es, ep, h1, h2, h3, h4, h6⟩ := I.hok a _ ha
    have e0 : vs = [] := by cases hv; rfl
    subst e0
    have e1 : es.toList = [] := by
      obtain ⟨h5, _⟩ := ‹Pairs _ _ _ ∧ _›
      revert h5
      generalize es.toList = l
      intro h5
      cases l with
      | nil => rfl
      | cons _ _ => cases h5
    have rd : Reads s.heap (.ref a) (.dict []) (a :: [] ++ []) := Reads.dict h1 h2.1 h3 (by rw [e1]; exact ReadsAll.nil) (by rw [e1]; exact ReadsAll.nil)
    refine repr_of_reads' rd sh (fun _ hm => ?_) hgd (by omega) (fun _ _ z => z) (fun h' u' tk kk => fin h' tk u' kk) sz
    have e2 : sysModules = a := by simpa using hm
    rw [← e2] at hs
    simp at hs
  obtain ⟨as, rd⟩ := Dp.reads I d x u hd ru
  have viaRef : ∀ a, u = .ref a → wpAny (model X.prog X.w) X.A (call (.builtin "repr") [u]) (EP X pins σ Q) X.xe s := fun a ea => by
    subst ea
    exact repr_of_reads' rd sh (PyData.noDict_hsm nd) hgd (by omega) (fun _ _ z => z) (fun h' u' tk kk => fin h' tk u' kk) sz
  cases hd with
  | non =>
    cases ru
    exact PySem.P.repr_of_none ⟨.str _, H, I.tok _, ⟨_, rfl⟩, by simpa only [PyData.shown] using q⟩
  | bl b =>
    cases ru
    exact PySem.P.repr_of_bool ⟨.str _, H, I.tok _, ⟨_, rfl⟩, by simpa only [PyData.shown] using q⟩
  | int i =>
    obtain ⟨t, rfl⟩ := ru
    have hz : i.natAbs.log2 < 1920 := of_decide_eq_true (by simpa only [PyData.showable] using sh)
    have e1 : (PyData.int i).shown = toString i := by simp only [PyData.shown]
    rw [e1] at q
    exact PySem.P.repr_of_int hz ⟨.str _, H, I.tok _, ⟨_, rfl⟩, q⟩
  | str y =>
    obtain ⟨t, rfl⟩ := ru
    have sz' : (reprText y).length ≤ sizeLine := by simpa only [PyData.shown] using sz
    exact PySem.P.repr_of_str ⟨.str _, H, I.tok _, ⟨_, rfl⟩, by simpa only [PyData.shown] using q⟩ sz'
  | lst h1 h2 => exact viaRef _ ru
  | tup h1 h2 => exact viaRef _ ru
end

/-! ### try .. except A as e: .. except B as e: .. -/
/-- one clause: the class, the slot of the name, the suite's reading -/
abbrev Clause := Value × Nat × (Addr → Obj → Value → Option Addr → List (Addr × Obj) → TS)
/-- what the clauses wish of an exception of the body -/
def wMA (K : PySem.W.Frag) (Wo : WX) (D : Ends) : List Clause → WX
  | [] => Wo
  | (c, i, ts) :: r => fun cls d σ H => ∃ b, PySem.W.exmOne K cls c = some b ∧
      (b = true → ∀ a oe pn, H a = none → ts a oe cls d pn { nx := fun σ' => D.nx (σ'.set i none), rt := D.rt, bk := fun σ' => D.bk (σ'.set i none), ct := fun σ' => D.ct (σ'.set i none) } (σ.set i (some (.ref a))) H) ∧
      (b = false → wMA K Wo D r cls d σ H)
inductive HdsA (X : Cx) : List ExceptHandler → List Clause → Prop
  | nil : HdsA X [] []
  | cons {x n : Str} {i : Nat} {c : Value} {ts : Addr → Obj → Value → Option Addr → List (Addr × Obj) → TS} {b0 : Stmt} {su : List Stmt} {np ps : Pos} {hds : List ExceptHandler} {l : List Clause}
      (hc : Names X x c) (hi : X.N[i]? = some n) (hn : X.env.kindOf n = some .local)
      (hsu : ∀ (a : Addr) (oe : Obj) (cls : Value) (d : Option Addr) (pn : List (Addr × Obj)), Zc cls d oe → (∃ vs, oe.data = .fields vs) → PSs (X.suite a ((a, oe) :: pn)) (b0 :: su) (ts a oe cls d pn))
      (r : HdsA X hds l) : HdsA X (.ExceptHandler (some (.Name x np)) (some n) (b0 :: su) ps :: hds) ((c, i, ts) :: l)
section
variable {X : Cx} {body : List Stmt} {h0 : ExceptHandler} {hds : List ExceptHandler} {l : List Clause} {pos : Pos} {tb : WX → List (Addr × Obj) → (Value → Shared → Prop) → TS} {Wo : WX}
theorem ps_tryA (hs : X.stack = X.env :: X.outer) (hf : X.env.frame = some X.env.locals) (hN : X.N.Nodup) (tk : Takes X Wo)
    (hb : ∀ (W : WX) (pn : List (Addr × Obj)) (xe : Value → Shared → Prop), Takes (X.tr pn xe) W → PassesOwn (model X.prog X.w) X.A X.env xe → PSs (X.tr pn xe) body (tb W pn xe))
    (hh : HdsA X (h0 :: hds) l) : PS X (.Try body (h0 :: hds) [] [] pos) (fun D σ H => ∀ pn xe, tb (wMA X.K Wo D l) pn xe D σ H) := by
  refine ⟨fun pins s σ H D I h => ?_⟩
  have ok := I.ok
  have hfr : X.A.frames = some (X.env :: X.outer) := by rw [ok.frames, hs]
  refine wpAny_Try_except (wpAny_mono ((hb (wMA X.K Wo D l) (X.pn ++ pins) _ (fun u s' xx => ?_) PassesOwn.looking).run [] s σ H D (I.toTry _) (h _ _)) (fun f s1 hsp => ?_) (fun _ _ z => z))
  · obtain ⟨a, B, sI, pins', σ', H', cls, d, rfl, J', nb, up, sky, na, os, ag, w⟩ := xx
    have J : Inv X pins σ' H' sI := J'.ofTry ok
    have sky2 : Sky B (X.env :: X.outer) a (Zc cls d) X.env.locals s'.heap := hs ▸ sky
    refine Sky.land Zc.steady hfr hf sky2 fun h3 fl3 up3 => ?_
    have J3 : Inv X pins σ' H' { s' with heap := h3 } := J.landed nb fl3.1 (up.trans up3) os ag
    obtain ⟨oe3, vs3, he3, hz3, hd3⟩ := fl3.there
    have out : a ∉ frs (X.env :: X.outer) := fun hm => by
      obtain ⟨_, o', e', hnf⟩ := fl3.2.2.1.mem hm
      rw [he3] at e'
      cases e'
      exact hnf _ hd3
    have nL : a ≠ X.env.locals := fun z => out (List.mem_filterMap.mpr ⟨X.env, List.mem_cons_self, by rw [hf, z]⟩)
    have nF : a ∉ X.fs := fun hm => by
      obtain ⟨y, hy, q⟩ := List.mem_filterMap.mp hm
      exact out (List.mem_filterMap.mpr ⟨y, List.mem_cons_of_mem _ hy, q⟩)
    have S3 := J3.suite he3 hd3 na nL nF
    have go : ∀ {hs2 : List ExceptHandler} {l2 : List Clause}, HdsA X hs2 l2 → wMA X.K Wo D l2 cls d σ' H' →
        wpAny (model X.prog X.w) X.A (handleBy (.ref a) X.env hs2) (SP X pins D) X.xe { s' with heap := h3 } := by
      intro hs2 l2 hk
      induction hk with
      | nil =>
        intro w
        refine wpAny_handleBy_nil ?_
        obtain ⟨_, _, _, oe, vs, T, oT, ts', he, hz, hd, h1, _⟩ := id fl3
        unfold PySem.passOn
        refine wpAny_bind (wpAny_field he hd h1 ?_)
        rw [if_neg (show ¬ ((Value.ref T == Value.none) = true) from by simp)]
        have fin : wpAny (model X.prog X.w) X.A (setFlight (.ref a) X.env.frame) (fun _ s4 => wpAny (model X.prog X.w) X.A (throw (.ref a) : Sem Flow) (SP X pins D) X.xe s4) X.xe { s' with heap := h3 } := by
          rw [hf]
          exact HandSPX.setFlight_upZ fl3 fun h4 hh4 up4 => wpAny_throw (tk _ _ ⟨a, B, sI, pins, σ', H', cls, d, rfl, J, nb, (up.trans up3).trans up4, .inr (.inr (hs ▸ hh4)), na, os, ag, w⟩)
        first
          | exact wpAny_bind (wpAny_pure (wpAny_bind fin))
          | exact wpAny_bind fin
      | @cons x n i c ts b0 su np ps hds3 l3 hc hi hn hsu r ih =>
        intro w
        obtain ⟨b, hb1, yes, no⟩ := w
        refine wpAny_handleBy_cons (codeAny_handlers_test ?_) (by intro q; cases q)
        have LT : PySem.W.Looks (model X.prog X.w) h3 (typeOf (.ref a)) cls := fun A Q E s k q => wpAny_typeOf_ref (k _ _ he3) (by rw [hz3.1]; exact q)
        have LM := PySem.W.exm_one (M := model X.prog X.w) (J3.kIn) LT hb1
        have nm : ∀ {Q : Value → Shared → Prop} {E : Value → Shared → Prop}, Q c { s' with heap := h3 } → wpAny (model X.prog X.w) (X.A.mark (some (.ref a))) (eval (.Name x np) X.env) Q E { s' with heap := h3 } := fun {Q E} q => by
          obtain ⟨hg, hdbg, hm | ⟨hm, hv, hnn⟩⟩ := hc
          · exact ld_glob (X := X.suite a ((a, oe3) :: (X.pn ++ pins))) S3 hg hm q hdbg
          · exact ld_blt (X := X.suite a ((a, oe3) :: (X.pn ++ pins))) S3 hg hm hv q hnn hdbg
        refine nm (LM.here ?_)
        cases b with
        | true =>
          refine codeAny_handlers_suite_as (HandSPX.lands_againZ fl3 fun h4 fl4 up4 => ?_)
          have J4 : Inv X pins σ' H' { s' with heap := h4 } := J.landed nb fl4.1 ((up.trans up3).trans up4) os ag
          obtain ⟨oe4, vs4, he4, hz4, hd4⟩ := fl4.there
          have S4 := J4.suite he4 hd4 na nL nF
          refine store_ok (X := X.suite a ((a, oe4) :: (X.pn ++ pins))) (v := .ref a) S4 hN hi (.inl hn) rfl (fun s5 S5 => ?_) (.inr hn)
          refine wpAny_mono ((hsu a oe4 cls d (X.pn ++ pins) hz4 ⟨_, hd4⟩).run [] s5 _ H' _ S5 (yes rfl a _ _ na)) (fun f s6 hsp => ?_) (fun _ _ z => False.elim z)
          have fin : ∀ {σ6 : L2.St} {H6 : Hp} {Q : Shared → Prop}, Inv (X.suite a ((a, oe4) :: (X.pn ++ pins))) [] σ6 H6 s6 → (∀ s7, Inv X pins (σ6.set i none) H6 s7 → Q s7) →
              wpAny (model X.prog X.w) X.A (do bindName X.env n .none; unbindBehindTheSuite X.env n ps) (fun _ s7 => Q s7) X.xe s6 := fun {σ6 H6 Q} S6 hq => gone_ok (S6.unsuite ok) hN hi hn hq
          cases f with
          | next =>
            obtain ⟨σ6, H6, S6, q6⟩ := hsp
            exact fin S6 fun s7 J7 => ⟨_, _, J7, q6⟩
          | brk =>
            obtain ⟨σ6, H6, S6, q6⟩ := hsp
            exact fin S6 fun s7 J7 => ⟨_, _, J7, q6⟩
          | cont =>
            obtain ⟨σ6, H6, S6, q6⟩ := hsp
            exact fin S6 fun s7 J7 => ⟨_, _, J7, q6⟩
          | ret u =>
            obtain ⟨v6, σ6, H6, S6, r6, q6⟩ := hsp
            exact fin S6 fun s7 J7 => ⟨_, _, _, J7, r6, q6⟩
        | false => exact ih (no rfl)
    exact go hh w
  · cases f with
    | next =>
      obtain ⟨σ', H', J', q⟩ := hsp
      exact wpAny_execs_nil ⟨σ', H', J'.ofTry ok, q⟩
    | brk =>
      obtain ⟨σ', H', J', q⟩ := hsp
      exact ⟨σ', H', J'.ofTry ok, q⟩
    | cont =>
      obtain ⟨σ', H', J', q⟩ := hsp
      exact ⟨σ', H', J'.ofTry ok, q⟩
    | ret u =>
      obtain ⟨v, σ', H', J', r, q⟩ := hsp
      exact ⟨v, σ', H', J'.ofTry ok, r, q⟩
end
end VG

set_option Elab.async false
set_option linter.all false
set_option maxRecDepth 100000
set_option maxHeartbeats 4000000
/-! Part X: an own exception whose __init__ calls super().__init__('..') and then stores texts and parameters into self. -/
namespace VX
open PySem PySem.W PySem.Spec PySem.Calls PyProof.Rows L2

/-! ### stores on an exception that stands at x, in the raw heap -/
section
open Builtin Builtin.ObjectAttr
variable {prog : Program} {w : World} {A : Around} {E : Value → Shared → Prop} {s : Shared} {K : Frag} {x C dx : Addr} {B : String} {bmB : List Value}
abbrev exc0 (C : Addr) (fv : Array Value) (dd : Option Addr) : Obj := { cls := .ref C, dict := dd, data := .fields fv }
theorem over_mro (hp : excOver K C bmB = true) : ∃ cd, clsIn K C = some cd := by
  obtain ⟨cd, hc, _⟩ := any_some hp
  exact ⟨cd, hc⟩
theorem taker_of {name : Str} (h : findIn K (.ref C) name = some none) : takerIn K C name = some none := by
  unfold takerIn
  rw [h]
  rfl
/-- the first store: the dict is made -/
theorem put0 {fv : Array Value} {name : Str} {v : Value} {cd : ClassData} {Q : Unit → Shared → Prop} (SF : StoreFacts B bmB "object.__setattr__" "object") (X : K.In s.heap) (hx : s.heap.get? x = some (exc0 C fv none))
    (hov : excOver K C bmB = true) (hcd : clsIn K C = some cd) (hh : cd.hasDict = true) (ha : findIn K (.ref C) name = some none) (sa : findIn K (.ref C) "__setattr__" = some (some (.builtin "object.__setattr__")))
    (hq : ∀ h' tk' dx, (∀ b o, b ≠ x → s.heap.get? b = some o → h'.get? b = some o) → s.heap.objs.size ≤ dx → dx ≠ x → h'.get? x = some (exc0 C fv (some dx)) →
      h'.Ns1 dx (fun y => if y = name then some v else none) → Q () { s with heap := h', toks := tk' }) :
    wpAny (model prog w) A (setAttr (.ref x) name v) Q E s := by
  have I : InstAt s.heap x (exc0 C fv none) C none := ⟨hx, rfl, rfl, trivial⟩
  have hxs : x ≠ s.heap.objs.size := Nat.ne_of_lt (Heap.lt_size hx)
  have hcls : Looks (model prog w) s.heap (classData C) cd := looks_clsIn X hcd
  obtain ⟨hp, g, d, t, os⟩ := s
  refine set_plain X I sa (osa_openX (s := ⟨hp, g, d, t + 1, os⟩) SF X I hov (taker_of ha) fun b => ?_)
  obtain ⟨nm, bs, mro, ns, qn, hd, sn, sb, ab, col, del⟩ := cd
  dsimp only at hh
  subst hh
  show wpAny _ _ (storeInOwnDict (.ref x) (.ref C) (.str name t) name v b) _ _ _
  unfold storeInOwnDict ownDictForStores
  repeat (first | with_reducible refine HandSPX.store_in_new ?_ ?_ | with_reducible refine wpAny_loadPart_at hx ?_ | with_reducible refine hcls.at ?_ | wp_step)
  · exact ⟨_, #[], _, (Heap.get?_update_ne _ _ _ _ hxs.symm).trans (Heap.get?_push_at rfl rfl), rfl, fun e he => absurd he (by simp), fun _ => rfl⟩
  · intro h' tk' hn' hs
    have hx1 : (hp.push { cls := .type "dict", data := .dict #[] }).get? x = some (exc0 C fv none) := Heap.get?_push_of_some _ hx
    refine hq h' tk' hp.objs.size (fun b' o hb ho => ?_) (Nat.le_refl _) hxs.symm ?_ hn'
    · exact (hs.2 b' (Nat.ne_of_lt (Heap.lt_size ho))).trans ((Heap.get?_update_ne _ _ _ _ hb).trans (Heap.get?_push_of_some _ ho))
    · exact (hs.2 x hxs).trans (Heap.get?_update_self _ hx1 rfl)
/-- a further store -/
theorem put1 {fv : Array Value} {name : Str} {v : Value} {cd : ClassData} {m0 : Str → Option Value} {nl : List Str} {Q : Unit → Shared → Prop} (SF : StoreFacts B bmB "object.__setattr__" "object") (X : K.In s.heap) (hx : s.heap.get? x = some (exc0 C fv (some dx)))
    (hns : s.heap.Ns1 dx m0) (hw : Within m0 nl) (hz : nl.length ≤ 1000)
    (hov : excOver K C bmB = true) (hcd : clsIn K C = some cd) (hh : cd.hasDict = true) (ha : findIn K (.ref C) name = some none) (sa : findIn K (.ref C) "__setattr__" = some (some (.builtin "object.__setattr__")))
    (hq : ∀ h' tk', (∀ b o, b ≠ dx → s.heap.get? b = some o → h'.get? b = some o) → h'.Ns1 dx (fun y => if y = name then some v else m0 y) → Q () { s with heap := h', toks := tk' }) :
    wpAny (model prog w) A (setAttr (.ref x) name v) Q E s := by
  obtain ⟨oD, esD, epD, hoD, hdD, _⟩ := hns.count hw
  have I : InstAt s.heap x (exc0 C fv (some dx)) C (some oD) := ⟨hx, rfl, rfl, hoD⟩
  have hcls : Looks (model prog w) s.heap (classData C) cd := looks_clsIn X hcd
  obtain ⟨hp, g, d, t, os⟩ := s
  refine set_plain X I sa (osa_openX (s := ⟨hp, g, d, t + 1, os⟩) SF X I hov (taker_of ha) fun b => ?_)
  obtain ⟨nm, bs, mro, ns, qn, hd, sn, sb, ab, col, del⟩ := cd
  dsimp only at hh
  subst hh
  show wpAny _ _ (storeInOwnDict (.ref x) (.ref C) (.str name t) name v b) _ _ _
  unfold storeInOwnDict ownDictForStores
  repeat (first | with_reducible refine OEX.store_in_old hns hw hz ?_ | with_reducible refine wpAny_loadPart_at hx ?_ | with_reducible refine hcls.at ?_ | wp_step)
  intro h' tk' hn' hs
  exact hq h' tk' (fun b o hb ho => (hs.2 b hb).trans ho) hn'
end

/-! ### the text of __init__: the stores -/
inductive Sto (sc : Scope) (m : Str → Option Value) : List Stmt → List (Str × V) → Prop
  | nil : Sto sc m [] []
  | txt {f y : Str} {k : Nat} {p1 p2 p3 p4 : Pos} {sts : List Stmt} {l : List (Str × V)} (r : Sto sc m sts l) :
      Sto sc m (.Assign [.Attribute (.Name "self" p1) f p2] (.Constant (.str y) k p3) p4 :: sts) ((f, .str y) :: l)
  | par {f x : Str} {v : V} {u : Value} {p1 p2 p3 p4 : Pos} {sts : List Stmt} {l : List (Str × V)} (hl : sc.names.lookup x = some .local) (hd : (x == ("__debug__" : Str)) = false)
      (hm : m x = some u) (rv : RelV v u) (r : Sto sc m sts l) : Sto sc m (.Assign [.Attribute (.Name "self" p1) f p2] (.Name x p3) p4 :: sts) ((f, v) :: l)

/-- how an exception stands at x, its dict at dx -/
structure At (h : Heap) (x C dx : Addr) (fv : Array Value) (fs : List (Str × V)) : Prop where
  ob : h.get? x = some (exc0 C fv (some dx))
  ns : ∃ mA, h.Ns1 dx mA ∧ ∀ f, RelO (fs.lookup f) (mA f)
/-- the class: what a store asks -/
structure Cls0 (K : Frag) (C : Addr) (B : String) (bmB : List Value) : Prop where
  sf : StoreFacts B bmB "object.__setattr__" "object"
  ov : excOver K C bmB = true
  cd : ∃ cd, clsIn K C = some cd ∧ cd.hasDict = true
  sa : findIn K (.ref C) "__setattr__" = some (some (.builtin "object.__setattr__"))
section
variable {prog : Program} {w : World} {A : Around} {E : Value → Shared → Prop} {s : Shared} {K : Frag} {x C dx L f cc : Addr} {B : String} {bmB : List Value} {q : Str} {sc : Scope} {cd : Value} {m : Str → Option Value}
theorem ldS {y : Str} {pos : Pos} {v : Value} {Q : Value → Shared → Prop} (hk : sc.kind = .function) (hn : s.heap.Ns L m) (hl : sc.names.lookup y = some .local) (hd : (y == ("__debug__" : Str)) = false) (hv : m y = some v) (h : Q v s) :
    wpAny (model prog w) A (eval (.Name y pos) (ksEnv q sc L f cd cc)) Q E s := wpAny_Name (wpAny_loadName_local hk hl hn hv h) hd
/-- one store's text: its value, then the store -/
theorem sto_one {g : Str} {v : V} {st : Stmt} {sts : List Stmt} {l : List (Str × V)} {Q : Flow → Shared → Prop} (hk : sc.kind = .function) (hself : sc.names.lookup ("self" : Str) = some .local) (hms : m "self" = some (.ref x))
    (S : Sto sc m (st :: sts) ((g, v) :: l)) (hn : s.heap.Ns L m)
    (h : ∀ u tk, RelV v u → wpAny (model prog w) A (setAttr (.ref x) g u) (fun _ s2 => wpAny (model prog w) A (execs sts (ksEnv q sc L f cd cc)) Q E s2) E { s with toks := tk }) :
    wpAny (model prog w) A (execs (st :: sts) (ksEnv q sc L f cd cc)) Q E s := by
  cases S with
  | txt r =>
    refine wpAny_execs_cons (plainObj_wpAny_Assign_Attribute (Calls.Constant_str (ldS hk hn hself (by decide) hms ?_)))
    exact h _ _ ⟨_, rfl⟩
  | par hl hd hm rv r =>
    refine wpAny_execs_cons (plainObj_wpAny_Assign_Attribute (ldS hk hn hl hd hm (ldS hk hn hself (by decide) hms ?_)))
    exact h _ _ rv
theorem Sto.tail {st : Stmt} {sts : List Stmt} {p : Str × V} {l : List (Str × V)} (S : Sto sc m (st :: sts) (p :: l)) : Sto sc m sts l := by
  cases S with
  | txt r => exact r
  | par _ _ _ _ r => exact r
/-- the further stores -/
theorem sto_go (T : Cls0 K C B bmB) (hk : sc.kind = .function) (hself : sc.names.lookup ("self" : Str) = some .local) (hms : m "self" = some (.ref x)) {fv : Array Value} {Q : Flow → Shared → Prop} :
    ∀ (sts : List Stmt) (l : List (Str × V)) (fs : List (Str × V)) (s : Shared), Sto sc m sts l → (∀ p ∈ l, findIn K (.ref C) p.1 = some none) → K.In s.heap → s.heap.Ns L m → L ≠ dx → (∀ b o, K.lookup b = some o → b ≠ dx) → dx ≠ x → At s.heap x C dx fv fs → fs.length + l.length ≤ 900 →
      (∀ h' tk, (∀ b o, b ≠ dx → s.heap.get? b = some o → h'.get? b = some o) → At h' x C dx fv (l.reverse ++ fs) → Q .next { s with heap := h', toks := tk }) →
      wpAny (model prog w) A (execs sts (ksEnv q sc L f cd cc)) Q E s := by
  intro sts l
  induction l generalizing sts with
  | nil =>
    intro fs s S _ X hn _ _ _ D _ h
    cases S
    exact wpAny_execs_nil (h s.heap s.toks (fun _ _ _ z => z) D)
  | cons p l ih =>
    obtain ⟨g, v⟩ := p
    intro fs s S hno X hn hL hX hne D hz h
    cases sts with
    | nil => cases S
    | cons st sts =>
      refine sto_one hk hself hms S hn fun u tk ru => ?_
      obtain ⟨mA, hns, rel⟩ := D.ns
      obtain ⟨cd', hcd, hh⟩ := T.cd
      have hw := within_of rel
      refine put1 (s := { s with toks := tk }) T.sf X D.ob hns hw (by rw [List.length_map]; simp only [List.length_cons] at hz; omega) T.ov hcd hh (hno _ List.mem_cons_self) T.sa fun h' tk' k hn' => ?_
      have hL' : h'.Ns L m := by
        obtain ⟨o, es, ep, ho, r⟩ := hn
        exact ⟨o, es, ep, k _ _ hL ho, r⟩
      refine ih sts ((g, v) :: fs) { s with heap := h', toks := tk' } S.tail (fun p hp => hno p (List.mem_cons_of_mem _ hp)) (fun b o e => k b o (hX b o e) (X b o e)) hL' hL hX hne ⟨k x _ (Ne.symm hne) D.ob, _, hn', relO_put ru rel⟩ (by simp only [List.length_cons] at hz ⊢; omega) fun h2 tk2 k2 D2 => ?_
      refine h h2 tk2 (fun b o hb e => k2 b o hb (k b o hb e)) ?_
      rw [List.reverse_cons, List.append_assoc]
      exact D2
end

/-! ### the text of __init__: super().__init__('..'), then the stores -/
def SupTxt (body : List Stmt) (sts : List Stmt) : Prop := ∃ (p0 p1 p2 p3 p4 p5 : Pos) (msg : Str) (k : Nat),
  body = .Expr (.Call (.Attribute (.Call (.Name "super" p0) [] [] p1) "__init__" p2) [.Constant (.str msg) k p3] [] p4) p5 :: sts ∧ (p2.endLine == p4.line) = true
/-- a method call on one line -/
theorem eval_one {o a : Expr} {name : Str} {p2 p4 : Pos} {env : Env} (h : (p2.endLine == p4.line) = true) (ha : starEach [a] env = [(false, eval a env)]) :
    eval (.Call (.Attribute o name p2) [a] [] p4) env = (do
      let ov ← attributeBase o name env (eval o env)
      standAt p2.atName
      let (f, first) ← holding [ov] (getMethod ov name (do return (← importBound o env).getD true))
      callWith p4 f first (backTo p4 (starEach [a] env)) []) := by
  have e : methodCallPos true o env p2 p4 = pure p4 := by
    unfold methodCallPos
    rw [h]
    rfl
  have hf : methodCallForm ([a].length + ([] : List Keyword).length) (backTo p4 (starEach [a] env)) [] = true := by rw [ha]; rfl
  show (do
    let ov ← attributeBase o name env (eval o env)
    standAt p2.atName
    methodCall o name p2 p4 env ov ([a].length + ([] : List Keyword).length) (backTo p4 (starEach [a] env)) []) = _
  unfold methodCall calleeOf
  rw [hf, e]
  rfl
/-- what the written part says of the class at C and of its __init__ -/
structure OwnX (prog : Program) (K : Frag) (C fI : Addr) (B newId initId : String) (bmB : List Value) (qual : Str) (st : Stmt) (sts : List Stmt) (fd : FuncData) : Prop where
  c0 : Cls0 K C B bmB
  eb : ExcBaseFacts B newId initId bmB
  kx : KxsFacts B initId
  ini : excInitIn K C bmB newId = true
  iC : findIn K (.ref C) "__init__" = some (some (.ref fI))
  tI : typeIn K (.ref fI) = some (.type "function")
  fn : ∃ (oc : Value) (od : Option Addr) (doc pm : Value) (an : Option Addr) (ct : Value) (cc cda : Addr) (osl : Array (Option Value)) (ccl : Value) (cdd : Option Addr) (vs : Array Value) (ccs : Array (Option Value)) (file : Str) (tf : Tok) (cl : Value) (cld : Option Addr) (csl : Array (Option Value)),
    fd = ksFn "__init__" qual (defArgs st) (defBody st) (defScope st) .none .none doc pm an (.ref cda) ct cc ∧ K.lookup fI = some ⟨oc, od, .func fd, osl⟩ ∧ codeIn K (.ref cda) qual = true ∧
      K.lookup cda = some ⟨ccl, cdd, .fields vs, ccs⟩ ∧ vs[2]? = some (.str file tf) ∧ (prog.main.file == file) = true ∧ K.lookup cc = some ⟨cl, cld, .cell (some (.ref C)), csl⟩
  tx : SupTxt (defBody st) sts
  kd : (defScope st).kind = .function ∧ (defScope st).isCoroutine = false ∧ (defScope st).isGenerator = false
  nc : ∀ x ∈ (defScope st).names, x.2 ≠ .cell
  sn : (defScope st).names.lookup ("super" : Str) = some .globalImplicit
  fn2 : (defScope st).names.lookup ("__class__" : Str) = some .free
  sl : (defScope st).names.lookup ("self" : Str) = some .local
  ar : ∃ a : Arg, ((defArgs st).posonlyargs ++ (defArgs st).args).head? = some a ∧ a.arg = "self"
  sup : ks_superIn K C C "__init__" = some (some (.builtin initId))
  subB : subIn K (.ref C) (.type B) = some true
  subO : mroIn K C (.ref C) = some true
  top : (prog.main.scope.names.lookup ("super" : Str)).isSome = false
  stat : nsIn K cStatics "thirdparty.any" = some none
section
variable {prog : Program} {w : World} {A : Around} {E : Value → Shared → Prop} {R : Result → Shared → Prop} {s : Shared} {K : Frag} {x C fI : Addr} {B newId initId : String} {bmB : List Value} {qual : Str} {st : Stmt} {sts : List Stmt} {fd : FuncData} {mg mb : Str → Option Value}
/-- the bound built-in __init__ is called: the arguments are laid anew -/
theorem bw_call (T : OwnX prog K C fI B newId initId bmB qual st sts fd) {h : Heap} {g : Array GenState} {d : Drawn} {t : Nat} {os : OsState} {u t0 : Addr} {ws : List Value} {Q : Value → Shared → Prop} (X : K.In h) (he : h.get? x = some (HandSPX.excO C t0))
    (hu : h.get? u = some (kxs_mw initId x)) (hz : ws.length ≤ sizeLine) (hq : ∀ h' t1, (∀ b o, b ≠ x → h.get? b = some o → h'.get? b = some o) → h'.get? x = some (HandSPX.excO C t1) → Q .none ⟨h', g, d, t, os⟩) :
    wpAny (model prog w) A (call (.ref u) ws) Q E ⟨h, g, d, t, os⟩ := by
  obtain ⟨nm, N', qn, bs, bm, hdct, sn, sub, ab, col, dd, k0, k1, k2, k3, k5, hC, _⟩ := excInit_of X T.ini
  refine wpAny_call (codeAny_of_tree (show wpAny _ A.in1 (callAny (.ref u) ⟨ws, []⟩) _ _ _ from ?_))
  simp only [callAny]
  refine wpAny_bind (wpAny_load hu ?_)
  simp only [kxs_mw, show (Value.type "method-wrapper" == Value.type "method" || Value.type "method-wrapper" == Value.type "builtin_function_or_method" || Value.type "method-wrapper" == Value.type "method-wrapper") = true by decide, if_true]
  refine KFB.if_so (by decide) (wpAny_bind (check_bound_init T.eb.toExcCallFacts hC he rfl (wpAny_bind (wpAny_pure (wpAny_pure ?_)))))
  refine ⟨plainId_quiet T.eb.init.plain _, codeAny_builtin T.eb.initEntry ?_⟩
  exact exc_init_tree (cls := .ref C) (t0 := t0) (dv := none) (c2 := .none) (c3 := .none) (b4 := .bool false) he hz fun h' k e' _ => hq h' _ k e'
/-- the whole __init__ -/
theorem own_init (T : OwnX prog K C fI B newId initId bmB qual st sts fd) {t0 : Addr} {us : List Value} {binds : List (Str × Value)} {l : List (Str × V)} {g0 : Str} {v0 : V} (X : K.In s.heap) (hlim : s.heap.NoLimit) (hg : s.heap.Ns mainGlobals mg) (hms : mg "super" = none)
    (hb : s.heap.Ns builtinsNs mb) (hbs : mb "super" = some (.type "super")) (hx : s.heap.get? x = some (HandSPX.excO C t0)) (hnx : K.lookup x = none) (hroom : A.depth < recursionLimit)
    (hbind : BindsTo s fd ⟨.ref x :: us, []⟩ binds) (hloc : ∀ y ∈ binds, (defScope st).names.lookup y.1 = some .local) (hself : binds.reverse.lookup ("self" : Str) = some (.ref x))
    (S : Sto (defScope st) (fun y => binds.reverse.lookup y) sts ((g0, v0) :: l)) (hno : ∀ p ∈ (g0, v0) :: l, findIn K (.ref C) p.1 = some none) (hl : l.length ≤ 800)
    (hq : ∀ h' tk dx fv, (∀ b o, b ≠ x → s.heap.get? b = some o → h'.get? b = some o) → s.heap.objs.size ≤ dx → dx ≠ x → fv[1]? = some Value.none → At h' x C dx fv (((g0, v0) :: l).reverse) → R (.ok (.ret .none)) { s with heap := h', toks := tk }) :
    codeAny (model prog w) A (.call (.ref fI) ⟨.ref x :: us, []⟩) R s := by
  obtain ⟨oc, od, doc, pm, an, ct, cc, cda, osl, ccl, cdd, vs, ccs, file, tf, cl, cld, csl, rfl, lk, hcd, lcode, hvs, hfile, lcell⟩ := T.fn
  obtain ⟨hk, hco, hgen⟩ := T.kd
  obtain ⟨cd, hcl, hhd⟩ := T.c0.cd
  refine ks_codeAny_call_defAt (fd := ksFn "__init__" qual (defArgs st) (defBody st) (defScope st) .none .none doc pm an (.ref cda) ct cc) hroom (X _ _ lk) rfl hlim (codeRec_of X hcd) rfl hbind T.nc hloc (fun h1 hns k1 => ?_) hco hgen hk
  have xL : s.heap.objs.size ≠ x := Nat.ne_of_gt (Heap.lt_size hx)
  show _root_.PySem.wpAt (model prog w) (A.deeper (ksEnv qual (defScope st) s.heap.objs.size fI (.ref cda) cc)) (.func (defBody st) (ksEnv qual (defScope st) s.heap.objs.size fI (.ref cda) cc)) (execs (defBody st) (ksEnv qual (defScope st) s.heap.objs.size fI (.ref cda) cc)) _ _ _
  obtain ⟨p0, p1, p2, p3, p4, p5, msg, kk, htx, hpos⟩ := T.tx
  obtain ⟨hp, gg, dr, tk0, os⟩ := s
  have X1 : K.In h1 := X.keeps k1
  obtain ⟨oD, hD1, hD2⟩ : ∃ oD, h1.get? C = some oD ∧ oD.data = .cls cd := by
    unfold clsIn at hcl
    split at hcl
    · rename_i c d cd' sl ho
      cases hcl
      exact ⟨_, X1 _ _ ho, rfl⟩
    · cases hcl
  obtain ⟨ar, har, harg⟩ := T.ar
  have nsK : ∀ {h h' : Heap} {b : Addr} {m : Str → Option Value}, h.Ns b m → (∀ b o, h.get? b = some o → h'.get? b = some o) → h'.Ns b m := fun hn k => hn.keeps k
  rw [show defBody st = .Expr (.Call (.Attribute (.Call (.Name "super" p0) [] [] p1) "__init__" p2) [.Constant (.str msg) kk p3] [] p4) p5 :: sts from htx]
  refine ks_wpAt_execs_cons (ks_wpAt_Expr_any (ks_wpAt_MethodCall (ks_wpAt_super_base (env := ksEnv qual (defScope st) hp.objs.size fI (.ref cda) cc) T.sn T.fn2 (by decide) rfl (X1 _ _ lk) rfl har rfl (X1 _ _ lcode) rfl hvs hfile T.top ?_) (eval_one hpos rfl)) ?_ ?_)
  rotate_left
  · simp [interactive, hk]
  · rfl
  have hx1 := k1 _ _ hx
  refine ks_loadName_global hk T.sn (loadGlobal_builtin (env := ksEnv qual (defScope st) hp.objs.size fI (.ref cda) cc) (nsK hg k1) hms (nsK hb k1) hbs ⟨rfl, ?_⟩)
  refine wpAny_loadName_free hk T.fn2 rfl ⟨_, X1 _ _ lcell, rfl⟩ ?_
  rw [harg]
  refine wpAny_loadName_local hk T.sl hns hself ?_
  refine ks_wpAny_isType_cls hD1 hD2 ⟨rfl, ?_⟩
  refine ks_wpAny_call_super hD1 hD2 hx1 rfl (fun c e => by cases e) (looks_mroIn X1 T.subO) (fun h2 hso k2 => ?_)
  have X2 : K.In h2 := X1.keeps k2
  have hx2 := k2 _ _ hx1
  have I2 : InstAt h2 x (HandSPX.excO C t0) C none := ⟨hx2, rfl, rfl, trivial⟩
  have hsup := T.sup
  unfold ks_superIn at hsup
  rw [hcl] at hsup
  refine kxs_getMethod T.kx hso (looks_opaque X2 T.stat) (l₀ := cd.mro) (fun A Q E s k q => wpAny_bind ((looks_clsIn X2 hcl) A _ E s k (wpAny_pure q))) rfl X2 hsup (I2.type.andThen (looks_subIn X2 T.subB)) (ks_ne X2 I2 hcl) (by decide) ?_
  have k3 : ∀ b o, h2.get? b = some o → (h2.push (kxs_mw initId x)).get? b = some o := fun b o e => Heap.get?_push_of_some _ e
  have hu : (h2.push (kxs_mw initId x)).get? h2.objs.size = some (kxs_mw initId x) := Heap.get?_push_at rfl rfl
  refine kxs_callWith (i := initId) (x := x) rfl (evalArgs_plain ?_)
  show wpAny _ _ (spliced ((false, eval (.Constant (.str msg) kk p3) _) :: backTo p4 (starEach [] (ksEnv qual (defScope st) hp.objs.size fI (.ref cda) cc)))) _ _ _
  refine Calls.spliced_cons (Calls.Constant_str (Calls.spliced_nil ⟨hu, ?_⟩))
  refine bw_call T (X2.keeps k3) (k3 _ _ hx2) hu (by show 1 ≤ sizeLine; rw [sizeLine_eq]; omega) fun h4 t1 k4 hx4 => wpAt_of_wpAny ?_
  have old : ∀ b o, b ≠ x → h1.get? b = some o → h4.get? b = some o := fun b o hbx e => k4 b o hbx (k3 b o (k2 b o e))
  have X4 : K.In h4 := fun b o e => old b o (fun z => by rw [z, hnx] at e; cases e) (X1 b o e)
  have hns4 : h4.Ns hp.objs.size (fun y => binds.reverse.lookup y) := by
    obtain ⟨o, es, ep, ho, r⟩ := hns
    exact ⟨o, es, ep, old _ _ xL ho, r⟩
  cases sts with
  | nil => cases S
  | cons st1 sts1 =>
    refine sto_one hk T.sl hself S hns4 fun u tk ru => ?_
    refine put0 (s := ⟨h4, gg, dr, tk, os⟩) T.c0.sf X4 hx4 T.c0.ov hcl hhd (hno _ List.mem_cons_self) T.c0.sa fun h5 tk5 dx k5 hdx dne hx5 hn5 => ?_
    have Lt4 : hp.objs.size < h4.objs.size := by
      obtain ⟨o, es, ep, ho, r⟩ := hns4
      exact Heap.lt_size ho
    have hns5 : h5.Ns hp.objs.size (fun y => binds.reverse.lookup y) := by
      obtain ⟨o, es, ep, ho, r⟩ := hns4
      exact ⟨o, es, ep, k5 _ _ xL ho, r⟩
    have X5 : K.In h5 := fun b o e => k5 b o (fun z => by rw [z, hnx] at e; cases e) (X4 b o e)
    refine sto_go T.c0 hk T.sl hself sts1 l [(g0, v0)] ⟨h5, gg, dr, tk5, os⟩ S.tail (fun p hp => hno p (List.mem_cons_of_mem _ hp)) X5 hns5 (Nat.ne_of_lt (Nat.lt_of_lt_of_le Lt4 hdx))
      (fun b o e => Nat.ne_of_lt (Nat.lt_of_lt_of_le (Heap.lt_size (X4 b o e)) hdx)) dne ⟨hx5, _, hn5, relO_put (fs := []) ru fun _ => True.intro⟩ (by simp only [List.length_cons, List.length_nil]; omega) fun h6 tk6 k6 D6 => ?_
    refine hq h6 tk6 dx #[.ref t1, .none, .none, .none, .bool false, .none] (fun b o hbx e => k6 b o ?_ (k5 b o hbx (old b o hbx (k1 b o e)))) (Nat.le_of_lt (Nat.lt_of_lt_of_le Lt4 hdx)) dne rfl ?_
    · exact Nat.ne_of_lt (Nat.lt_of_lt_of_le (Heap.lt_size (old b o hbx (k1 b o e))) hdx)
    · rw [List.reverse_cons]
      exact D6
end

/-! ### the making: X(e, ..) -/
/-- the class is called: the new exception and its dict -/
structure OwnMade (h h' : Heap) (e C d : Addr) (fs : List (Str × V)) : Prop where
  keep : ∀ b o, h.get? b = some o → h'.get? b = some o
  new : h.objs.size ≤ e
  obj : ∃ oe vs, h'.get? e = some oe ∧ oe.cls = .ref C ∧ oe.dict = some d ∧ oe.data = .fields vs ∧ vs[1]? = some .none
  dbig : h.objs.size ≤ d
  dne : d ≠ e
  ns : ∃ mA, h'.Ns1 d mA ∧ ∀ f, RelO (fs.lookup f) (mA f)
section
variable {prog : Program} {w : World} {A : Around} {E : Value → Shared → Prop} {R : Result → Shared → Prop} {s : Shared} {K : Frag} {C fI : Addr} {B newId initId : String} {bmB : List Value} {qual : Str} {st : Stmt} {sts : List Stmt} {fd : FuncData} {mg mb : Str → Option Value}
/-- how the arguments bind and what is stored: n arguments behind self; fs: what is stored, the last one first -/
structure StoTx (st : Stmt) (sts : List Stmt) (fd : FuncData) (n : Nat) (fs : List V → List (Str × V)) : Prop where
  go : ∀ (s : Shared) (x : Addr) (vs : List V) (us : List Value), Vals vs us → vs.length = n → ∃ (binds : List (Str × Value)) (g0 : Str) (v0 : V) (l : List (Str × V)),
    BindsTo s fd ⟨.ref x :: us, []⟩ binds ∧ (∀ y ∈ binds, (defScope st).names.lookup y.1 = some .local) ∧ binds.reverse.lookup ("self" : Str) = some (.ref x) ∧
      Sto (defScope st) (fun y => binds.reverse.lookup y) sts ((g0, v0) :: l) ∧ l.length ≤ 800 ∧ ((g0, v0) :: l).reverse = fs vs
theorem own_made (T : OwnX prog K C fI B newId initId bmB qual st sts fd) {n : Nat} {fs : List V → List (Str × V)} (S : StoTx st sts fd n fs) {vs : List V} {us : List Value} (rv : Vals vs us) (hn : vs.length = n) (hno : ∀ p ∈ fs vs, findIn K (.ref C) p.1 = some none)
    (X : K.In s.heap) (hlim : s.heap.NoLimit) (hg : s.heap.Ns mainGlobals mg) (hms : mg "super" = none) (hb : s.heap.Ns builtinsNs mb) (hbs : mb "super" = some (.type "super")) (hroom : A.depth + 1 < recursionLimit) (hz : us.length ≤ sizeLine)
    (hq : ∀ h' tk e d, OwnMade s.heap h' e C d (fs vs) → R (.ok (.ret (.ref e))) { s with heap := h', toks := tk }) :
    codeAny (model prog w) A (.call (.ref C) ⟨us, []⟩) R s := by
  obtain ⟨nm, N', qn, bs, bm, hdct, sn, sub, ab, col, dd, k0, k1, k2, k3, k5, hC, hT⟩ := excInit_of X T.ini
  obtain ⟨hp, g, dr, tk, os⟩ := s
  have k : ∀ b o, hp.get? b = some o → ((hp.push (kdv_tup us)).push (HandSPX.excO C hp.objs.size)).get? b = some o := fun b o e => Heap.get?_push_of_some _ (Heap.get?_push_of_some _ e)
  have hget : ((hp.push (kdv_tup us)).push (HandSPX.excO C hp.objs.size)).get? (hp.objs.size + 1) = some (HandSPX.excO C hp.objs.size) := by heap_get
  have hnx : K.lookup (hp.objs.size + 1) = none := by
    cases e : K.lookup (hp.objs.size + 1) with
    | none => rfl
    | some o => exact absurd (Nat.lt_of_succ_lt (Heap.lt_size (X _ _ e))) (Nat.lt_irrefl _)
  have nsK : ∀ {b : Addr} {m : Str → Option Value}, hp.Ns b m → ((hp.push (kdv_tup us)).push (HandSPX.excO C hp.objs.size)).Ns b m := fun hn => hn.keeps k
  refine HandSPX.call_own T.eb hT hC (looks_findIn X T.iC) (fun self => bind_fn X self T.tI) hz ?_
  obtain ⟨binds, g0, v0, l, hbind, hloc, hself, sto, hl, e⟩ := S.go ⟨(hp.push (kdv_tup us)).push (HandSPX.excO C hp.objs.size), g, dr, tk, os⟩ (hp.objs.size + 1) vs us rv hn
  refine own_init (s := ⟨(hp.push (kdv_tup us)).push (HandSPX.excO C hp.objs.size), g, dr, tk, os⟩) T (X.keeps k) (hlim.keeps k) (nsK hg) hms (nsK hb) hbs hget hnx (by show A.depth + 1 < recursionLimit; exact hroom) hbind hloc hself sto
    (fun p hp => hno p (by rw [← e]; exact List.mem_reverse.mpr hp)) hl fun h' tk' dx fv kk dn dne hfv D => ?_
  have z : hp.objs.size + 1 + 1 ≤ dx := by
    have q := dn
    first
      | (simpa only [Heap.size_push] using q)
      | (rw [Heap.size_push, Heap.size_push] at q; exact q)
  rw [e] at D
  exact ⟨rfl, hq h' tk' (hp.objs.size + 1) dx ⟨fun b o q => kk b o (Nat.ne_of_lt (Nat.lt_succ_of_lt (Heap.lt_size q))) (k b o q), Nat.le_succ _, ⟨_, _, D.ob, rfl, rfl, rfl, hfv⟩, Nat.le_trans (Nat.le_trans (Nat.le_succ _) (Nat.le_succ _)) z, dne, D.ns⟩⟩
end

section
variable {X : Cx} {C fI : Addr} {B newId initId : String} {bmB : List Value} {qual : Str} {st : Stmt} {sts : List Stmt} {fd : FuncData}
/-- what a raise asks of the class -/
structure RaiseX (prog : Program) (K : Frag) (mg : Str → Option Value) (x : Str) (C fI : Addr) (B newId initId : String) (bmB : List Value) (qual : Str) (st : Stmt) (sts : List Stmt) (fd : FuncData) (n : Nat) (fs : List V → List (Str × V)) : Prop where
  own : OwnX prog K C fI B newId initId bmB qual st sts fd
  sto : StoTx st sts fd n fs
  gC : mg x = some (.ref C)
  kC : keepIn K (.ref C) = true
  noS : mg "super" = none
  exC : subIn K (.ref C) (.type "BaseException") = some true
  tyC : typeIn K (.ref C) = some (.type "type")
  no : ∀ vs, vs.length = n → ∀ p ∈ fs vs, findIn K (.ref C) p.1 = some none
/-- X(e, ..) -/
def tMkX (C : Addr) (n : Nat) (fs : List V → List (Str × V)) (ta : TA) : L2.St → Hp → XK → Prop := fun σ H Q => ta σ H fun vs H1 => vs.length = n ∧ ∀ d, H1 d = none → Q (.ref C) (some d) (upd H1 d (.xd (fs vs)))
theorem pmk_X {x : Str} {e : Expr} {es : List Expr} {ta : TA} {p pos : Pos} {k n : Nat} {fs : List V → List (Str × V)} (T : RaiseX X.prog X.K X.mg x C fI B newId initId bmB qual st sts fd n fs) (hr : Room k X.A) (ha : PA X (e :: es) ta) (hn : n ≤ 1000) (hg : Gl X x := by rfl) (hdb : (x == ("__debug__" : Str)) = false := by decide)
    (he : starEach (e :: es) X.env = (false, eval e X.env) :: starEach es X.env := by rfl) (hpl : (backTo pos (starEach es X.env)).any (·.1) = false := by rfl) :
    PMk X (.Call (.Name x p) (e :: es) [] pos) (tMkX C n fs ta) := by
  intro pins s σ H Q I h
  refine wpAny_Call_Name_kw (ld_glob I hg T.gC ?_ hdb)
  refine PySem.W.callWith_K (h₀ := X.base) I.ok.mod.kin T.kC (thn (ha.run pos pins s σ H _ I h) fun us s1 hh => ?_) he hpl
  obtain ⟨vs, H1, I1, r1, hl, q1⟩ := hh
  refine ⟨I1.kIn, ?_⟩
  have hlim := I1.nolimit
  obtain ⟨mb, hb1, hb2⟩ := I1.ok.mod.blt
  have hG : s1.heap.Ns mainGlobals X.mg := I1.ok.mod.glob.keeps I1.bk
  have hB : s1.heap.Ns builtinsNs mb := hb1.keeps I1.bk
  have hlu : us.length ≤ sizeLine := by rw [← r1.length, hl, sizeLine_eq]; omega
  obtain ⟨hp, g, dr, tk, os⟩ := s1
  refine wpAny_call (own_made T.own T.sto r1 hl (T.no vs hl) I1.kIn hlim hG T.noS hB ((hb2 _ (by decide)).trans (by decide +kernel)) (by have := hr.dp; omega) hlu fun h' tk' e d M => ?_)
  show MkP X pins σ Q (.ref e) ⟨h', g, dr, tk', os⟩
  obtain ⟨oe, fv, hoe, hc, hd, hdat, h1⟩ := M.obj
  obtain ⟨mA, hns, rel⟩ := M.ns
  obtain ⟨G', g1, g2⟩ := restrict h' fun b => decide (b ≠ e)
  have gk : ∀ b, b ≠ e → G'.get? b = h'.get? b := fun b hb => g1 b (decide_eq_true hb)
  have ge : G'.get? e = none := g2 e (by simp)
  have old : ∀ b o, hp.get? b = some o → G'.get? b = some o := fun b o q => (gk b (Nat.ne_of_lt (Nat.lt_of_lt_of_le (Heap.lt_size q) M.new))).trans (M.keep b o q)
  have ob : ObjOk X.prog X.w (upd H1 d (.xd (fs vs))) G' d (.xd (fs vs)) := ⟨mA, hns.at (fun o q => (gk d M.dne).trans q), rel⟩
  have J : Inv X pins σ (upd H1 d (.xd (fs vs))) ⟨G', g, dr, tk', os⟩ := I1.laid (t' := tk') old M.dbig ob
  refine ⟨e, oe, fv, ⟨G', g, dr, tk', os⟩, _, .ref C, some d, rfl, J, fun b o q => ?_, ge, hoe, ⟨hc, hd⟩, hdat, h1, ?_, rfl, I1.bare, raises_own T.exC T.tyC, q1 d (I1.hok.fresh M.dbig)⟩
  · by_cases hb : b = e
    · have q' : G'.get? b = some o := q
      rw [hb, ge] at q'
      cases q'
    · exact (gk b hb).symm.trans q
  · rw [upd_ne (Ne.symm M.dne)]
    exact I1.hok.fresh M.new
/-- raise X(e, ..) -/
def tRaiseX (C : Addr) (n : Nat) (fs : List V → List (Str × V)) (W : WX) (ta : TA) : TS := fun _ σ H => tMkX C n fs ta σ H fun cls d H' => W cls d σ H'
theorem ps_raiseX {x : Str} {e : Expr} {es : List Expr} {ta : TA} {W : WX} {p pos pos2 : Pos} {k n : Nat} {fs : List V → List (Str × V)} (T : RaiseX X.prog X.K X.mg x C fI B newId initId bmB qual st sts fd n fs) (hc : X.calm = true) (hr : Room k X.A) (tk : Takes X W) (ha : PA X (e :: es) ta) (hn : n ≤ 1000 := by decide)
    (hg : Gl X x := by rfl) (hdb : (x == ("__debug__" : Str)) = false := by decide) (he : starEach (e :: es) X.env = (false, eval e X.env) :: starEach es X.env := by rfl) (hpl : (backTo pos (starEach es X.env)).any (·.1) = false := by rfl) :
    PS X (.Raise (some (.Call (.Name x p) (e :: es) [] pos)) none pos2) (tRaiseX C n fs W ta) := ps_raise hc tk (pmk_X T hr ha hn hg hdb he hpl)
end
end VX

set_option Elab.async false
set_option linter.all false
set_option maxRecDepth 100000
set_option maxHeartbeats 4000000
/-! Part I: walks over sequences (lists and tuples alike), ranges, enumerate, reversed, in one form. -/
namespace VI
open PySem PySem.Spec PyProof.Rows L2

/-- n turns; S is what a turn asks of the heap; Y tells what a turn yields -/
def ItG (n : Nat) (S : Hp → Prop) (Y : Nat → Hp → V → Hp → Prop) : It := ⟨fun i H => i < n ∧ S H, fun i H x H' => i < n ∧ Y i H x H', fun i H => n ≤ i ∧ S H⟩
section
variable {P : Program} {w : World} {K : PySem.W.Frag} {tg : Expr} {J J2 : It} {fp : List Addr} {it : Addr} {tn : Nat → Heap → Prop}
theorem turn_imp (T : Turn P w K tg J fp it tn) (hg : ∀ i H, J2.go i H → J.go i H) (hy : ∀ i H x H', J2.go i H → J.yld i H x H' → J2.yld i H x H') (hs : ∀ i H, J2.stop i H → J.stop i H) : Turn P w K tg J2 fp it tn where
  mem := T.mem
  obj := T.obj
  keep := T.keep
  item := fun X a b c d i pins s σ H E I hf st go => by
    refine thn (T.item X a b c d i pins s σ H E I hf st (hg i H go)) fun r s1 hr => ?_
    obtain ⟨u, e, h⟩ := hr
    refine ⟨u, e, thn h fun _ s2 hh => ?_⟩
    obtain ⟨x, H', I', rx, y, t, n⟩ := hh
    exact ⟨x, H', I', rx, hy i H x H' go y, t, n⟩
  done := fun X a b c d i pins s σ H E I hf st st2 => T.done X a b c d i pins s σ H E I hf st (hs i H st2)
  self := T.self
end
theorem pie_map {X : Cx} {pins : List (Addr × Obj)} {σ : L2.St} {tg : Expr} {R R' : It → Hp → Prop} {u : Value} {s : Shared} (h : PIE X pins σ tg R' u s)
    (f : ∀ J H', R' J H' → ∃ J2, (∀ i H, J2.go i H → J.go i H) ∧ (∀ i H x H', J2.go i H → J.yld i H x H' → J2.yld i H x H') ∧ (∀ i H, J2.stop i H → J.stop i H) ∧ R J2 H') : PIE X pins σ tg R u s := by
  obtain ⟨it, fp, tn, J, H', e, I, T, st, hf, q⟩ := h
  obtain ⟨J2, a, b, c, q2⟩ := f J H' q
  exact ⟨it, fp, tn, J2, H', e, I, turn_imp T a b c, st, hf, q2⟩
/-- a for: the invariant by the turn -/
theorem for_G {n : Nat} {S : Hp → Prop} {Y : Nat → Hp → V → Hp → Prop} {g : TG} {tb : TS} {D : Ends} {σ : L2.St} {H : Hp} (Pv : Nat → L2.St → Hp → Prop) (h0 : Pv 0 σ H) (hS : ∀ i σ H, i ≤ n → Pv i σ H → S H)
    (hs : ∀ i x σ H H', i < n → Pv i σ H → Y i H x H' → g x σ H' fun σ2 H2 => tb { D with nx := Pv (i + 1), ct := Pv (i + 1), bk := D.nx } σ2 H2) (hd : ∀ σ H, Pv n σ H → D.nx σ H) :
    ∃ W : Nat → Nat → L2.St → Hp → Prop, (∃ m, W 0 m σ H) ∧ ∀ i m σ H, W i m σ H →
      ((ItG n S Y).stop i H ∧ D.nx σ H) ∨ ((ItG n S Y).go i H ∧ ∃ N : L2.St → Hp → Prop, (∀ σ' H', N σ' H' → ∃ m', m' < m ∧ W (i + 1) m' σ' H') ∧ ∀ x H', (ItG n S Y).yld i H x H' → g x σ H' fun σ2 H2 => tb { D with nx := N, ct := N, bk := D.nx } σ2 H2) := by
  refine ⟨fun i m σ H => m = n - i ∧ i ≤ n ∧ Pv i σ H, ⟨n, rfl, Nat.zero_le _, h0⟩, ?_⟩
  rintro i m σ H ⟨rfl, hi, p⟩
  by_cases hlt : i < n
  · exact .inr ⟨⟨hlt, hS i σ H hi p⟩, Pv (i + 1), fun σ' H' p' => ⟨n - (i + 1), by omega, rfl, hlt, p'⟩, fun x H' y => hs i x σ H H' hlt p y.2⟩
  · have e : i = n := Nat.le_antisymm hi (Nat.le_of_not_lt hlt)
    subst e
    exact .inl ⟨⟨Nat.le_refl _, hS i σ H hi p⟩, hd σ H p⟩
/-- a comprehension -/
theorem lc_G {n : Nat} {S : Hp → Prop} {Y : Nat → Hp → V → Hp → Prop} {g : TG} {tt : TT} {te : TE} {vs : List Nat} {σ : L2.St} {H1 : Hp} {D : Addr} {Qd : Hp → Prop} (Pv : Nat → Hp → Prop) (h0 : Pv 0 (upd H1 D (.lst []))) (hS : ∀ i H, i ≤ n → Pv i H → S H)
    (hs : ∀ i x H H', i < n → Pv i H → Y i H x H' → g x (wipe σ vs) H' fun σ2 H2 => wipe σ2 vs = wipe σ vs ∧ tt σ2 H2 fun b H3 =>
      if b = true then te σ2 H3 fun y H4 => ∃ acc, H4 D = some (.lst acc) ∧ acc.length < sizeLine ∧ Pv (i + 1) (upd H4 D (.lst (acc ++ [y]))) else Pv (i + 1) H3) (hd : ∀ H, Pv n H → Qd H) :
    ∃ W : Nat → Nat → Hp → Prop, (∃ m, W 0 m (upd H1 D (.lst []))) ∧ ∀ i m H, W i m H →
      ((ItG n S Y).stop i H ∧ Qd H) ∨ ((ItG n S Y).go i H ∧ ∃ Nx : Hp → Prop, (∀ H', Nx H' → ∃ m', m' < m ∧ W (i + 1) m' H') ∧ ∀ x H', (ItG n S Y).yld i H x H' → g x (wipe σ vs) H' fun σ2 H2 => wipe σ2 vs = wipe σ vs ∧ tt σ2 H2 fun b H3 =>
        if b = true then te σ2 H3 fun y H4 => ∃ acc, H4 D = some (.lst acc) ∧ acc.length < sizeLine ∧ Nx (upd H4 D (.lst (acc ++ [y]))) else Nx H3) := by
  refine ⟨fun i m H => m = n - i ∧ i ≤ n ∧ Pv i H, ⟨n, rfl, Nat.zero_le _, h0⟩, ?_⟩
  rintro i m H ⟨rfl, hi, p⟩
  by_cases hlt : i < n
  · exact .inr ⟨⟨hlt, hS i H hi p⟩, Pv (i + 1), fun H' p' => ⟨n - (i + 1), by omega, rfl, hlt, p'⟩, fun x H' y => hs i x H H' hlt p y.2⟩
  · have e : i = n := Nat.le_antisymm hi (Nat.le_of_not_lt hlt)
    subst e
    exact .inl ⟨⟨Nat.le_refl _, hS i H hi p⟩, hd H p⟩

/-- a sequence: a list (b) or a tuple -/
def Sk (b : Bool) (K : PySem.W.Frag) (H : Hp) (a : Addr) (xs : List V) : Prop := match b with
  | true => SqL K H a xs
  | false => SqT K H a xs
def yIt (xs : List V) : Nat → Hp → V → Hp → Prop := fun i H x H' => H' = H ∧ xs[i]? = some x
def yRev (xs : List V) : Nat → Hp → V → Hp → Prop := fun i H x H' => H' = H ∧ xs[xs.length - 1 - i]? = some x
def yEnum (xs : List V) : Nat → Hp → V → Hp → Prop := fun i H v H' => ∃ T x, v = .ref T ∧ H T = none ∧ H' = upd H T (.tup [.int (i : Nat), x]) ∧ xs[i]? = some x
def yRng (lo c : Int) : Nat → Hp → V → Hp → Prop := fun i H x H' => H' = H ∧ x = .int (lo + (i : Nat) * c)
theorem getE {xs : List V} {i : Nat} (h : i < xs.length) : xs[i]? = some xs[i] := by simp [h]
section
variable {X : Cx} {tg : Expr}
/-- for x in e, e a list or a tuple -/
def iSeq (K : PySem.W.Frag) (tl : TE) : TI := fun σ H R => tl σ H fun x H1 => ∃ (b : Bool) (a : Addr) (xs : List V), x = .ref a ∧ Sk b K H1 a xs ∧ R (ItG xs.length (fun H => Sk b K H a xs) (yIt xs)) H1
theorem pi_seq {l : Expr} {tl : TE} (hl : PE X l tl) : PI X tg l (iSeq X.K tl) := by
  refine ⟨fun pins s σ H R I h => thn (hl.run pins s σ H _ I h) fun v s1 hh => ?_⟩
  obtain ⟨x, H1, I1, r1, b, a, xs, rfl, hq, q⟩ := hh
  cases r1
  cases b with
  | true =>
    have hq' : SqL X.K H1 a xs := hq
    obtain ⟨its, rv, p, hz⟩ := I1.list hq'
    refine wpAny_pyIter_list p.isList (pi_one (tk := s1.toks) I1 _ (turn_imp (J2 := ItG xs.length (fun H => Sk true X.K H a xs) (yIt xs)) (turn_list a _) (fun i H g => ⟨xs, _, g.2, getE g.1⟩) (fun i H x H' g y => ⟨g.1, y.1, y.2 xs g.2⟩) fun i H g => ⟨xs, g.2, g.1⟩) ⟨_, Heap.get?_push_size _ rfl, rfl, rfl⟩ q)
  | false =>
    have hq' : SqT X.K H1 a xs := hq
    obtain ⟨its, rv, p, hz⟩ := I1.tuple hq'
    refine wpAny_pyIter_tuple (show s1.heap.IsTuple a its.toArray from p) (pi_one (tk := s1.toks) I1 _ (turn_imp (J2 := ItG xs.length (fun H => Sk false X.K H a xs) (yIt xs)) (turn_tuple a _) (fun i H g => ⟨xs, _, g.2, getE g.1⟩) (fun i H x H' g y => ⟨g.1, y.1, y.2 xs g.2⟩) fun i H g => ⟨xs, g.2, g.1⟩) ⟨_, Heap.get?_push_size _ rfl, rfl, rfl⟩ q)
/-- range(..) -/
def iRg1 (ta : TA) : TI := fun σ H R => ta σ H fun vs H1 => ∃ j : Int, vs = [.int j] ∧ -(2 ^ 62) ≤ j ∧ j < 2 ^ 62 ∧ R (ItG j.toNat (fun _ => True) (yRng 0 1)) H1
def iRg2 (ta : TA) : TI := fun σ H R => ta σ H fun vs H1 => ∃ i j : Int, vs = [.int i, .int j] ∧ (-(2 ^ 62) ≤ i ∧ i < 2 ^ 62 ∧ -(2 ^ 62) ≤ j ∧ j < 2 ^ 62) ∧ R (ItG (j - i).toNat (fun _ => True) (yRng i 1)) H1
theorem rng_turn {P : Program} {w : World} {K : PySem.W.Frag} {tg : Expr} {it : Addr} {lo : Int} {n : Nat} {fp : List Addr} {tn : Nat → Heap → Prop} (T : Turn P w K tg (Itr lo n) fp it tn) : Turn P w K tg (ItG n (fun _ => True) (yRng lo 1)) fp it tn :=
  turn_imp T (fun i H g => g.1) (fun i H x H' g y => ⟨g.1, y.1, by rw [y.2, Int.mul_one]⟩) fun i H g => g.1
theorem pie_rng {pins : List (Addr × Obj)} {σ : L2.St} {R : It → Hp → Prop} {u : Value} {s : Shared} {lo : Int} {n : Nat} (h : PIE X pins σ tg (fun J H' => J = Itr lo n ∧ R (ItG n (fun _ => True) (yRng lo 1)) H') u s) : PIE X pins σ tg R u s :=
  pie_map h fun J H' q => ⟨_, by rw [q.1]; exact fun i H g => g.1, by rw [q.1]; exact fun i H x H' g y => ⟨g.1, y.1, by rw [y.2, Int.mul_one]⟩, by rw [q.1]; exact fun i H g => g.1, q.2⟩
theorem pi_rg1 {a : Expr} {ta : TA} {p pos : Pos} (hg : Gl X "range") (hm : X.mg "range" = none) (ha : PA X [a] ta) (hs : starEach [a] X.env = [(false, eval a X.env)] := by rfl) : PI X tg (.Call (.Name "range" p) [a] [] pos) (iRg1 ta) := by
  refine ⟨fun pins s σ H R I h => Call_ (ld_blt I hg hm boot_range (PyProof.Rows.callWith_type1 (thn (ha.run pos pins s σ H _ I h) fun us s1 hh => ?_) hs rfl))⟩
  obtain ⟨vs, H1, I1, r1, j, rfl, q1, q2, q⟩ := hh
  cases r1 with
  | cons r rr =>
    cases rr
    obtain ⟨t, rfl⟩ := r
    exact call_range_1 (thn (range_it (tg := tg) (R := fun J H' => J = Itr 0 j.toNat ∧ R (ItG j.toNat (fun _ => True) (yRng 0 1)) H') I1 (by omega) (by omega) q1 q2 ⟨by simp, q⟩) fun _ _ z => pie_rng z)
theorem pi_rg2 {a b : Expr} {ta : TA} {p pos : Pos} (hg : Gl X "range") (hm : X.mg "range" = none) (ha : PA X [a, b] ta) (hs : starEach [a, b] X.env = [(false, eval a X.env), (false, eval b X.env)] := by rfl) (hs2 : starEach [b] X.env = [(false, eval b X.env)] := by rfl) :
    PI X tg (.Call (.Name "range" p) [a, b] [] pos) (iRg2 ta) := by
  refine ⟨fun pins s σ H R I h => Call_ (ld_blt I hg hm boot_range (PyProof.Rows.callWith_type1 (thn (ha.run pos pins s σ H _ I h) fun us s1 hh => ?_) (by rw [hs, hs2]) (by rw [hs2]; rfl)))⟩
  obtain ⟨vs, H1, I1, r1, i, j, rfl, ⟨q1, q2, q3, q4⟩, q⟩ := hh
  cases r1 with
  | cons r rr =>
    cases rr with
    | cons r' rr =>
      cases rr
      obtain ⟨t, rfl⟩ := r
      obtain ⟨t', rfl⟩ := r'
      exact call_range_2 (thn (range_it (tg := tg) (R := fun J H' => J = Itr i (j - i).toNat ∧ R (ItG (j - i).toNat (fun _ => True) (yRng i 1)) H') I1 q1 q2 q3 q4 ⟨rfl, q⟩) fun _ _ z => pie_rng z)
/-- range(lo, hi, c) -/
def iRg3 (ta : TA) : TI := fun σ H R => ta σ H fun vs H1 => ∃ (i j c : Int) (n : Nat), vs = [.int i, .int j, .int c] ∧ RgC i j c n ∧ R (ItG n (fun _ => True) (yRng i c)) H1
theorem pi_rg3 {a b c : Expr} {ta : TA} {p pos : Pos} (hg : Gl X "range") (hm : X.mg "range" = none) (ha : PA X [a, b, c] ta)
    (hs : starEach [a, b, c] X.env = (false, eval a X.env) :: starEach [b, c] X.env := by rfl) (hpl : (backTo pos (starEach [b, c] X.env)).any (·.1) = false := by rfl) :
    PI X tg (.Call (.Name "range" p) [a, b, c] [] pos) (iRg3 ta) := by
  refine ⟨fun pins s σ H R I h => Call_ (ld_blt I hg hm boot_range (PyProof.Rows.callWith_type1 (thn (ha.run pos pins s σ H _ I h) fun us s1 hh => ?_) hs hpl))⟩
  obtain ⟨vs, H1, I1, r1, i, j, k, n, rfl, ⟨c0, c1, c2, c3⟩, q⟩ := hh
  cases r1 with
  | cons r rr =>
    cases rr with
    | cons r' rr =>
      cases rr with
      | cons r'' rr =>
        cases rr
        obtain ⟨t, rfl⟩ := r
        obtain ⟨t', rfl⟩ := r'
        obtain ⟨t'', rfl⟩ := r''
        refine call_range_3 c0 (wpAny_pyIter_range (IsRange.new ..) c2 ?_) (.inl (PyProof.noPylong_small c1))
        have I2 : Inv X pins σ H1 { s1 with heap := s1.heap.push { cls := .type "range", data := .fields #[.int i t, .int j t', .int k t''] } } := I1.kept (t' := s1.toks) fun b o e => Heap.get?_push_of_some _ e
        refine pi_one (tk := s1.toks) I2 _ (turn_imp (J2 := ItG n (fun _ => True) (yRng i k)) (turn_rangeC _ i k n) (fun i H g => g.1) (fun i H x H' g y => ⟨g.1, y.1, y.2⟩) fun i H g => g.1) ?_ q
        show IsRangeIter _ _ (i + ((0 : Nat) : Int) * k) ((n : Int) - ((0 : Nat) : Int)) k
        rw [show i + ((0 : Nat) : Int) * k = i by simp, show (n : Int) - ((0 : Nat) : Int) = Builtin.Range.rangeSize i j k by rw [c3]; simp]
        exact Heap.get?_push_size _ rfl

/-! ### enumerate -/
def iEn (K : PySem.W.Frag) (ta : TA) : TI := fun σ H R => ta σ H fun vs H1 => ∃ (b : Bool) (a : Addr) (xs : List V), vs = [.ref a] ∧ Sk b K H1 a xs ∧ R (ItG xs.length (fun H => Sk b K H a xs) (yEnum xs)) H1
end
set_option maxHeartbeats 4000000 in
theorem meets_enumT {v : Value} {o : Obj} {H : Heap → Prop} (B : Begins v o H) :
    Meets (Builtin.«enumerate.__new__» ⟨[.type "enumerate", v], []⟩) (fun _ R s => H s.heap ∧
      R (.ok (.ret (.ref (s.heap.push o).objs.size))) { s with heap := (s.heap.push o).push { cls := .type "enumerate", data := .fields #[.none, .bool false, .ref s.heap.objs.size, rawInt 0, .none, .none] } }) :=
  .of_wp fun prog w A R s h => by
    obtain ⟨hp, g, d, tk, os⟩ := s
    obtain ⟨h1, h⟩ := h
    have hsub := sub_enumerate
    have it1 : ∀ {A' : Around} {E : Value → Shared → Prop} {Q : Value → Shared → Prop}, Q (.ref hp.objs.size) ⟨hp.push o, g, d, tk, os⟩ → wpAny (model prog w) A' (pyIter v) Q E ⟨hp, g, d, tk, os⟩ :=
      fun q => B.iter prog w _ _ ⟨hp, g, d, tk, os⟩ _ h1 q
    wp_walk using it1
    refine wpAny_stack_any fun st => wpAny_pure ?_
    split
    · rename_i c _ _ _ _ _
      cases (c == Value.type "enumerate")
      · wp_walk using it1
        exact ⟨_, rfl, h⟩
      · wp_walk using it1
        exact ⟨_, rfl, h⟩
    · wp_walk using it1
      exact ⟨_, rfl, h⟩
section
variable {prog : Program} {w : World} {A : Around} {E : Value → Shared → Prop} {s : Shared}
theorem enum_of {v : Value} {o : Obj} {H : Heap → Prop} {Q : Value → Shared → Prop} (B : Begins v o H) (h1 : H s.heap)
    (h : ∀ h', IsEnum h' (s.heap.objs.size + 1) s.heap.objs.size 0 .none → h'.get? s.heap.objs.size = some o → h'.objs.size = s.heap.objs.size + 2 →
      (∀ b o, s.heap.get? b = some o → h'.get? b = some o) → Q (.ref (s.heap.objs.size + 1)) { s with heap := h' }) :
    wpAny (model prog w) A (call (.type "enumerate") [v]) Q E s := by
  refine callType_new F.called_enumerate (by decide) (F.typeCall_enumerate_1 _) (F.newCall_enumerate_1 _) (fun obj => F.args_object_init_2 obj _) F.entry_enumerate_new (meets_enumT B) ⟨h1, ?_⟩
  have hz : (s.heap.push o).objs.size = s.heap.objs.size + 1 := Heap.size_push ..
  show _ ∧ _
  rw [hz]
  have he : IsEnum ((s.heap.push o).push { cls := .type "enumerate", data := .fields #[.none, .bool false, .ref s.heap.objs.size, rawInt 0, .none, .none] }) (s.heap.objs.size + 1) s.heap.objs.size 0 .none := by
    have z := Heap.get?_push_size (s.heap.push o) (o := { cls := .type "enumerate", data := .fields #[.none, .bool false, .ref s.heap.objs.size, rawInt 0, .none, .none] }) rfl
    rw [hz] at z
    exact z
  exact ⟨⟨_, he, rfl⟩, h _ he (Heap.get?_push_of_some _ (Heap.get?_push_size _ B.free)) (by rw [Heap.size_push, hz]) fun b o x => Heap.get?_push_of_some _ (Heap.get?_push_of_some _ x)⟩
end
/-- the tuple at a, each item in a new pair -/
theorem turn_enumT {P : Program} {w : World} {K : PySem.W.Frag} {elts : List Expr} {kk : Nat} {tpos : Pos} (xs : List V) (a e it : Addr) (hae : a ≠ e) (hai : a ≠ it) :
    Turn P w K (.Tuple elts kk tpos) (ItG xs.length (fun H => Sk false K H a xs) (yEnum xs)) [e, it] e (fun i h => (∃ old, IsEnum h e it ((i : Nat) : Int) old) ∧ h.IsTupleIter it a i ∧ e ≠ it ∧ i ≤ xs.length) where
  mem := by simp
  obj := fun i h st b hb => by
    obtain ⟨⟨old, he⟩, ⟨o, ho, hc, hd⟩, _⟩ := st
    rcases (show b = e ∨ b = it by simpa using hb) with z | z
    · rw [z]; exact ⟨_, he, fun v q => nomatch q⟩
    · rw [z]; exact ⟨o, ho, fun v q => by rw [hd] at q; cases q⟩
  keep := fun i h h' st k => let ⟨⟨old, he⟩, hi, hne⟩ := st; ⟨⟨old, k e (by simp) _ he⟩, hi.at fun o q => k it (by simp) o q, hne⟩
  item := by
    intro X hP hw hK hc i pins s σ H E I hf st hg
    subst hP hw hK
    obtain ⟨⟨old, he⟩, hit, hne, hle⟩ := st
    obtain ⟨hix, hq⟩ := hg
    have hq : SqT X.K H a xs := hq
    have hx := getE hix
    generalize hxx : xs[i] = x at hx
    obtain ⟨its, rv, p, hz⟩ := I.tuple hq
    obtain ⟨u, hu, ru⟩ := rv.get hx
    have hel : e < s.heap.objs.size := Heap.lt_size he
    have hil : it < s.heap.objs.size := by
      obtain ⟨_, q, _⟩ := hit
      exact Heap.lt_size q
    have hlt : i < its.toArray.size := by
      have := (List.getElem?_eq_some_iff.mp hu).1
      simpa using this
    have D : Draws X.prog X.w X.A.in1 it [it, a] its.toArray.size (fun i v => its.toArray[i]? = some v) (fun i h => h.IsTupleIter it a i ∧ h.IsTuple a its.toArray) := Draws.tuple (A := X.A.in1) (I.ok.hd hc) it a hai its.toArray
    refine wpAny_pyNext_enum_itemD D he ⟨hit, p⟩ hlt hne (by simp; exact ⟨hne, Ne.symm hae⟩) fun y h' tk hy ho st' hT hsz hk => ?_
    have ey : y = u := by
      have e1 : its[i]? = some y := by simpa using hy
      rw [hu] at e1
      exact (Option.some.inj e1).symm
    subst ey
    refine ⟨_, rfl, wpAny_letOwnedTupleGo_enum (s := { s with heap := h', toks := tk + 1 }) ho fun h'' he' sb => ?_⟩
    have hT2 : h''.get? s.heap.objs.size = some { cls := .type "tuple", data := .seq #[.int i tk, y] } := (sb.2 _ (Nat.ne_of_gt hel)).trans hT
    have new : ObjOk X.prog X.w (upd H s.heap.objs.size (.tup [.int (i : Nat), x])) h'' s.heap.objs.size (.tup [.int (i : Nat), x]) :=
      ⟨by show 2 ≤ sizeLine; decide, [.int i tk, y], .cons ⟨_, rfl⟩ (.cons ru .nil), ⟨_, hT2, rfl, _, rfl⟩⟩
    have I1 : Inv X pins σ (upd H s.heap.objs.size (.tup [.int (i : Nat), x])) { s with heap := h'', toks := tk + 1 } :=
      I.turnedNew (ch := [e, it]) (fun b ob hb q => (sb.2 b (fun z => hb (by simp [z]))).trans (hk b ob (fun z => hb (by simp [z])) (fun z => hb (by simp [z])) q)) hf (Nat.le_refl _) new
    refine ⟨.ref s.heap.objs.size, _, I1, rfl, ⟨hix, _, x, rfl, I.hok.fresh (Nat.le_refl _), rfl, hx⟩, ⟨⟨y, ?_⟩, st'.1.at fun o q => (sb.2 it (Ne.symm hne)).trans q, hne, hix⟩, fun b hb => ?_⟩
    · rw [show ((i + 1 : Nat) : Int) = (i : Int) + 1 by omega]
      exact he'
    · have hb' : b < s.heap.objs.size := by
        rcases (show b = e ∨ b = it by simpa using hb) with z | z
        · rw [z]; exact hel
        · rw [z]; exact hil
      rw [upd_ne (Nat.ne_of_lt hb')]
      exact (hf b hb).1
  done := by
    intro X hP hw hK hc i pins s σ H E I hf st hg
    subst hP hw hK
    obtain ⟨⟨old, he⟩, hit, hne, hle⟩ := st
    obtain ⟨hx, hq⟩ := hg
    have hq : SqT X.K H a xs := hq
    obtain ⟨its, rv, p, hz⟩ := I.tuple hq
    obtain ⟨f0, f1, f2, f3, f4, f5⟩ := hf it (by simp)
    have hl := rv.length
    have ei : its.toArray.size = i := by
      have z : its.toArray.size = its.length := by simp
      omega
    have D : Draws X.prog X.w X.A.in1 it [it, a] its.toArray.size (fun i v => its.toArray[i]? = some v) (fun i h => h.IsTupleIter it a i ∧ h.IsTuple a its.toArray) := Draws.tuple (A := X.A.in1) (I.ok.hd hc) it a hai its.toArray
    exact wpAny_pyNext_enum_endD D he ⟨by rw [ei]; exact hit, p⟩ fun h' eb => ⟨rfl, I.turned (t' := s.toks) (fun b o hb q => eb b o hb q) f0 f1 f3 f4 f5⟩
  self := fun A i s Q E st h => let ⟨⟨_, he⟩, _⟩ := st; wpAny_pyIter_enum he h
section
variable {X : Cx} {tg : Expr}
theorem pi_en {e : Expr} {ta : TA} {p pos tpos : Pos} {elts : List Expr} {kk : Nat} (hg : Gl X "enumerate") (hm : X.mg "enumerate" = none) (ha : PA X [e] ta) (hs : starEach [e] X.env = [(false, eval e X.env)] := by rfl) :
    PI X (.Tuple elts kk tpos) (.Call (.Name "enumerate" p) [e] [] pos) (iEn X.K ta) := by
  refine ⟨fun pins s σ H R I h => Call_ (ld_blt I hg hm boot_enumerate (PyProof.Rows.callWith_type1 (thn (ha.run pos pins s σ H _ I h) fun us s1 hh => ?_) hs rfl))⟩
  obtain ⟨vs, H1, I1, r1, b, a, xs, rfl, hq, q⟩ := hh
  cases r1 with
  | cons r rr =>
    cases rr
    cases r
    have fin : ∀ {h' : Heap} {tn : Nat → Heap → Prop}, (∀ b o, s1.heap.get? b = some o → h'.get? b = some o) → Turn X.prog X.w X.K (.Tuple elts kk tpos) (ItG xs.length (fun H => Sk b X.K H a xs) (yEnum xs)) [s1.heap.objs.size + 1, s1.heap.objs.size] (s1.heap.objs.size + 1) tn → tn 0 h' →
        PIE X pins σ (.Tuple elts kk tpos) R (.ref (s1.heap.objs.size + 1)) { s1 with heap := h' } := fun {h' tn} hk T st => by
      refine ⟨s1.heap.objs.size + 1, _, _, _, H1, rfl, I1.kept (t' := s1.toks) hk, T, st, fun c hb => ?_, q⟩
      have hle : s1.heap.objs.size ≤ c := by
        rcases (show c = s1.heap.objs.size + 1 ∨ c = s1.heap.objs.size by simpa using hb) with z | z
        · rw [z]; exact Nat.le_add_right _ _
        · rw [z]; exact Nat.le_refl _
      exact I1.fpOk hle (I1.hok.fresh hle)
    cases b with
    | true =>
      have hq' : SqL X.K H1 a xs := hq
      obtain ⟨its, rv, p', hz⟩ := I1.list hq'
      refine call_enumerate_list p'.isList fun h' he hit hsz hk => wpAny_pyIter_enum he (fin hk (turn_imp (J2 := ItG xs.length (fun H => Sk true X.K H a xs) (yEnum xs)) (turn_enum a _ _) (fun i H g => ⟨xs, _, g.2, getE g.1⟩) (fun i H x H' g y => ?_) fun i H g => ⟨xs, g.2, g.1⟩) ⟨⟨.none, he⟩, hit, Nat.succ_ne_self _⟩)
      obtain ⟨T, x, e1, e2, e3, e4⟩ := y
      exact ⟨g.1, T, x, e1, e2, e3, e4 xs g.2⟩
    | false =>
      have hq' : SqT X.K H1 a xs := hq
      obtain ⟨its, rv, p', hz⟩ := I1.tuple hq'
      have hla : a < s1.heap.objs.size := p'.lt
      refine enum_of (begins_tuple a its.toArray) p' fun h' he hit hsz hk => wpAny_pyIter_enum he (fin hk (turn_enumT xs a _ _ (Nat.ne_of_lt (Nat.lt_succ_of_lt hla)) (Nat.ne_of_lt hla)) ⟨⟨.none, he⟩, ⟨_, hit, rfl, rfl⟩, Nat.succ_ne_self _, Nat.zero_le _⟩)
end
end VI

set_option Elab.async false
set_option linter.all false
set_option maxRecDepth 100000
set_option maxHeartbeats 4000000
/-! Part R: reversed(tuple). -/
namespace VR
open PySem PySem.Spec PyProof.Rows L2 VI
theorem slot_rev_next : Slot "reversed" "__next__" "reversed.__next__" :=
  .of (owner := "reversed") (n := "__next__") (by rw [typeLookup_type, builtinLookup_eq_fast]; kernel_rfl) (by decide +kernel) (by decide +kernel) (by decide +kernel) (by first | exact .inl (by decide +kernel) | exact .inr (by decide +kernel)) (by rw [isSubtype_type]; kernel_rfl)
theorem slot_rev_iter : Slot "reversed" "__iter__" "reversed.__iter__" :=
  .of (owner := "reversed") (n := "__iter__") (by rw [typeLookup_type, builtinLookup_eq_fast]; kernel_rfl) (by decide +kernel) (by decide +kernel) (by decide +kernel) (by first | exact .inl (by decide +kernel) | exact .inr (by decide +kernel)) (by rw [isSubtype_type]; kernel_rfl)
theorem entry_rev_next : entryFor table "reversed.__next__" = some Builtin.«reversed.__next__» := entryFor_of_tree (by kernel_rfl)
theorem entry_rev_iter : entryFor table "reversed.__iter__" = some Builtin.«dict_keyiterator.__iter__» :=
  entryFor_alias (id' := "dict_keyiterator.__iter__") (by kernel_rfl) (by first | rfl | decide +kernel | (unfold String.splitOn; simp +decide [String.splitOnAux])) (by decide +kernel) (by kernel_rfl)
theorem args_rev_next (a : Value) : argsOk "reversed.__next__" ⟨[a], []⟩ := by unfold argsOk; kernel_rfl
theorem args_rev_iter (a : Value) : argsOk "reversed.__iter__" ⟨[a], []⟩ := by unfold argsOk; kernel_rfl
theorem slot_rev_init : Slot "reversed" "__init__" "object.__init__" :=
  .of (owner := "object") (n := "__init__") (by rw [typeLookup_type, builtinLookup_eq_fast]; kernel_rfl) (by decide +kernel) (by decide +kernel) (by decide +kernel) (by first | exact .inl (by decide +kernel) | exact .inr (by decide +kernel)) (by rw [isSubtype_type]; kernel_rfl)
theorem called_rev : TypeCalled "reversed" "reversed.__new__" "object.__init__" :=
  ⟨by decide +kernel, by decide +kernel, ⟨_, _, F.mro_reversed⟩, F.made_reversed, by decide +kernel, by rw [isSubtype_type]; kernel_rfl, slot_rev_init⟩
theorem tup_noRev : typeLookup (.type "tuple") "__reversed__" = pure none := by rw [typeLookup_type, builtinLookup_eq_fast]; kernel_rfl
theorem sub_td : isSubtype (.type "tuple") (.type "dict") = pure false := by rw [isSubtype_type]; kernel_rfl
abbrev revT (t : Addr) (i : Int) : Obj := { cls := .type "reversed", data := .fields #[.ref t, rawInt i] }
theorem new_step {prog : Program} {w : World} {A : Around} {E : Value → Shared → Prop} {P : Fin → Shared → Prop} {s : Shared} {t : Addr} {items : Array Value} (ht : IsTup s.heap t items) (hz : (items.size : Int) < 2 ^ 63)
    (h : ∀ tk, P (.done (.ret (.ref s.heap.objs.size))) { s with heap := s.heap.push (revT t ((items.size : Int) - 1)), toks := tk }) :
    wpAny (model prog w) A (Builtin.«reversed.__new__» ⟨[.type "reversed", .ref t], []⟩) P E s := by
  have hT : s.TypeIs (.ref t) "tuple" := ht.typeIs
  unfold Builtin.«reversed.__new__»
  refine wpAny_bind (wpAny_of_eq (newClass_reversed _) ?_)
  try dsimp only
  refine wpAny_bind (wpAny_of_eq (a := ()) (by first | rfl | kernel_rfl) ?_)
  refine wpAny_bind (wpAny_of_eq (a := ()) (by first | rfl | kernel_rfl) ?_)
  try dsimp only
  refine wpAny_bind (wpAny_specialOf hT tup_noRev ?_)
  dsimp only
  refine wpAny_bind ?_
  show wpAny _ _ (isInstance (.ref t) (.type "dict") >>= fun b => if b = true then pure false else (specialOf (.ref t) "__getitem__" >>= fun r => match r with
    | none => pure false
    | some (.builtin g) => if ["tuple.__getitem__", "str.__getitem__", "bytes.__getitem__", "bytearray.__getitem__", "memoryview.__getitem__", "numpy.ndarray.__getitem__", "sqlite3.Row.__getitem__"].contains g = true then pure true
      else if (g == "sqlite3.Blob.__getitem__") = true then pure false else unsupported "reversed.__new__:is-it-a-sequence"
    | some _ => pure true)) _ _ _
  refine wpAny_bind (wpAny_isInstance hT sub_td ?_)
  rw [if_neg Bool.false_ne_true]
  refine wpAny_bind (wpAny_specialOf hT F.slot_tuple_getitem.lookup ?_)
  show wpAny _ _ (if (["tuple.__getitem__", "str.__getitem__", "bytes.__getitem__", "bytearray.__getitem__", "memoryview.__getitem__", "numpy.ndarray.__getitem__", "sqlite3.Row.__getitem__"].contains "tuple.__getitem__") = true then _ else _) _ _ _
  rw [if_pos (by decide +kernel)]
  refine wpAny_pure ?_
  rw [if_neg (by decide)]
  refine wpAny_bind (PyProof.Rows.len_tuple ht hz ?_)
  refine wpAny_bind (wpAny_of_eq (a := some (items.size : Int)) (by first | rfl | kernel_rfl) ?_)
  dsimp only
  show wpAny _ _ (newObj (.type "reversed") (.fields #[.ref t, rawInt ((items.size : Int) - 1)]) >>= fun r => ret r) _ _ _
  exact wpAny_bind (wpAny_newObj_type (wpAny_pure (h _)))
theorem meets_rev {t : Addr} {items : Array Value} (hz : (items.size : Int) < 2 ^ 63) :
    Meets (Builtin.«reversed.__new__» ⟨[.type "reversed", .ref t], []⟩) (fun _ R s => IsTup s.heap t items ∧
      ∀ tk, R (.ok (.ret (.ref s.heap.objs.size))) { s with heap := s.heap.push (revT t ((items.size : Int) - 1)), toks := tk }) :=
  .of_wp fun prog w A R s h => new_step h.1 hz fun tk => ⟨_, rfl, h.2 tk⟩
section
variable {prog : Program} {w : World} {A : Around} {E : Value → Shared → Prop} {s : Shared} {t it : Addr} {items : Array Value}
theorem call_rev {Q : Value → Shared → Prop} (ht : IsTup s.heap t items) (hz : (items.size : Int) < 2 ^ 63)
    (h : ∀ tk, Q (.ref s.heap.objs.size) { s with heap := s.heap.push (revT t ((items.size : Int) - 1)), toks := tk }) : wpAny (model prog w) A (call (.type "reversed") [.ref t]) Q E s := by
  refine callType_new called_rev (by decide) (F.typeCall_reversed_1 _) (F.newCall_reversed_1 _) (fun obj => F.args_object_init_2 obj _) F.entry_reversed_new (meets_rev hz) ⟨ht, fun tk => ?_⟩
  exact ⟨⟨_, Heap.get?_push_size _ rfl, rfl⟩, h tk⟩
/-- the iterator at it over the tuple at t, the next place i -/
def IsRev (h : Heap) (it t : Addr) (i : Int) : Prop := h.get? it = some (revT t i)
theorem next_item {i : Nat} {x : Value} {Q : Option Value → Shared → Prop} (hit : IsRev s.heap it t (i : Int)) (ht : IsTup s.heap t items) (hx : items[i]? = some x) (hz : (items.size : Int) < 2 ^ 62)
    (hQ : ∀ h' tk, IsRev h' it t ((i : Int) - 1) → Heap.SameBut it s.heap h' → Q (some x) { s with heap := h', toks := tk }) : wpAny (model prog w) A (pyNext (.ref it)) Q E s := by
  have hT : s.TypeIs (.ref it) "reversed" := ⟨_, hit, rfl⟩
  have hi : i < items.size := (Array.getElem?_eq_some_iff.mp hx).1
  unfold pyNext
  refine wpAny_bind (wpAny_attempt (wpAny_callSpecial?_slot (name := Str.ofString "__next__") hT slot_rev_next
    (wpAny_call_entry slot_rev_next hT entry_rev_next ?_ (args_rev_next _))))
  unfold Builtin.«reversed.__next__»
  refine wpAny_bind (wpAny_of_eq (a := (Value.ref it, [])) rfl ?_)
  try dsimp only
  refine wpAny_bind (wpAny_field hit rfl (x := .ref t) rfl ?_)
  refine wpAny_bind (wpAny_field hit rfl (x := rawInt (i : Int)) rfl ?_)
  show wpAny _ _ (if (i : Int) < 0 then _ else _) _ _ s
  rw [if_neg (by omega)]
  refine wpAny_bind (wpAny_specialOf (show s.TypeIs (.ref t) "tuple" from ht.typeIs) F.slot_tuple_getitem.lookup ?_)
  rw [if_neg (show ¬ ((some (Value.builtin "tuple.__getitem__")).isNone = true) from Bool.false_ne_true)]
  refine wpAny_bind (wpAny_mkInt ?_)
  refine wpAny_bind (wpAny_attempt (PyProof.Rows.getItem_tuple ht (by omega) (by omega) (j := i) (by unfold seqIndex?; simp; omega) hx ?_))
  dsimp only
  refine wpAny_bind (wpAny_field (show ({ s with toks := s.toks + 1 } : Shared).heap.get? it = _ from hit) rfl (x := rawInt (i : Int)) rfl ?_)
  refine wpAny_bind (wpAny_setField_rec hit (by simp) fun h2 e2 s2 => ?_)
  exact wpAny_pure ⟨x, rfl, wpAny_pure (hQ h2 _ (show h2.get? it = _ by simpa using e2) s2)⟩
theorem next_end {Q : Option Value → Shared → Prop} (hh : A.handled = none) (hit : IsRev s.heap it t (-1))
    (hQ : ∀ h', Heap.ExtBut it s.heap h' → Q none { s with heap := h' }) : wpAny (model prog w) A (pyNext (.ref it)) Q E s := by
  have hT : s.TypeIs (.ref it) "reversed" := ⟨_, hit, rfl⟩
  unfold pyNext
  refine wpAny_bind (wpAny_attempt (wpAny_callSpecial?_slot (name := Str.ofString "__next__") hT slot_rev_next
    (wpAny_call_entry slot_rev_next hT entry_rev_next ?_ (args_rev_next _))))
  unfold Builtin.«reversed.__next__»
  refine wpAny_bind (wpAny_of_eq (a := (Value.ref it, [])) rfl ?_)
  try dsimp only
  refine wpAny_bind (wpAny_field hit rfl (x := .ref t) rfl ?_)
  refine wpAny_bind (wpAny_field hit rfl (x := rawInt (-1)) rfl ?_)
  show wpAny _ _ (if (-1 : Int) < 0 then _ else _) _ _ s
  rw [if_pos (by decide)]
  refine wpAny_bind (wpAny_rule (wpAny_bind ?_))
  show wpAny _ _ (do setField (.ref it) 1 (rawInt (-1)); setField (.ref it) 0 .none) _ _ _
  refine wpAny_bind (wpAny_setField_rec hit (by simp) fun h2 e2 s2 => ?_)
  refine wpAny_setField_rec e2 (by simp) fun h3 e3 s3 => ?_
  have eb : Heap.ExtBut it s.heap h3 := fun b o hb hbo => (s3.2 b hb).trans ((s2.2 b hb).trans hbo)
  refine wpAny_bind (show wpAny _ _ (newExc (.type "StopIteration") [] >>= fun v => raiseNew v) _ _ _ from ?_)
  refine wpAny_bind ?_
  simp only [newExc, newTuple]
  refine wpAny_bind (wpAny_newObj_type (wpAny_bind (m := firstArgMember _ _) (wpAny_of_eq (a := Value.none) (by first | rfl | (simp only [firstArgMember]; rfl)) (wpAny_newObj_type ?_ (by size_fits)))) (by size_fits))
  simp only [raiseNew]
  refine wpAny_bind (wpAny_handled ?_)
  rw [show A.in1.handled = none from hh]
  refine wpAny_bind (wpAny_pure (wpAny_throw ?_))
  refine wpAny_bind (wpAny_isInstance (T := "StopIteration") (b := true) ⟨_, Heap.get?_push_size _ rfl, rfl⟩ isSubtype_stop (wpAny_pure (hQ _ ((eb.push _).push _))))
theorem iter_self {i : Int} {Q : Value → Shared → Prop} (hit : IsRev s.heap it t i) (h : Q (.ref it) s) : wpAny (model prog w) A (pyIter (.ref it)) Q E s := by
  have hT : s.TypeIs (.ref it) "reversed" := ⟨_, hit, rfl⟩
  refine wpAny_pyIter_slot hT slot_rev_iter (wpAny_call_entry slot_rev_iter hT entry_rev_iter ?_ (args_rev_iter _))
  show wpAny _ _ (ret (.ref it)) _ _ s
  exact wpAny_pure ⟨_, rfl, "reversed", _, hT, slot_rev_next.lookup, h⟩
end
/-- the tuple at t from its end -/
theorem turn_revT {P : Program} {w : World} {K : PySem.W.Frag} {tg : Expr} (xs : List V) (t it : Addr) (hz : (xs.length : Int) < 2 ^ 62) :
    Turn P w K tg (ItG xs.length (fun H => Sk false K H t xs) (yRev xs)) [it] it (fun i h => i ≤ xs.length ∧ IsRev h it t ((xs.length : Int) - 1 - (i : Nat))) where
  mem := by simp
  obj := fun i h st b hb => by
    have e : b = it := by simpa using hb
    subst e
    exact ⟨_, st.2, fun v z => by cases z⟩
  keep := fun i h h' st k => ⟨st.1, k it (by simp) _ st.2⟩
  item := by
    intro X hP hw hK hc i pins s σ H E I hf st hg
    subst hP hw hK
    obtain ⟨hin, hq⟩ := hg
    have hq : SqT X.K H t xs := hq
    obtain ⟨its, rv, p, _⟩ := I.tuple hq
    have hx : xs[xs.length - 1 - i]? = some xs[xs.length - 1 - i] := getE (by omega)
    obtain ⟨u, hu, ru⟩ := rv.get hx
    obtain ⟨f0, f1, f2, f3, f4, f5⟩ := hf it (by simp)
    obtain ⟨_, hit⟩ := st
    rw [show (xs.length : Int) - 1 - ((i : Nat) : Int) = ((xs.length - 1 - i : Nat) : Int) by omega] at hit
    have hl := rv.length
    refine next_item hit p (x := u) (by simpa using hu) (by simp only [List.size_toArray]; omega) fun h' tk st' sb => ?_
    rw [show ((xs.length - 1 - i : Nat) : Int) - 1 = (xs.length : Int) - 1 - ((i + 1 : Nat) : Int) by omega] at st'
    have I1 : Inv X pins σ H { s with heap := h', toks := tk } := I.turned (fun b o hb e => (sb.2 b hb).trans e) f0 f1 f3 f4 f5
    exact ⟨u, rfl, go_of (s := { s with heap := h', toks := tk }) st' rfl rfl (by decide) ⟨_, H, I1, ru, ⟨hin, rfl, hx⟩, ⟨hin, st'⟩, fun b hb => (hf b hb).1⟩⟩
  done := by
    intro X hP hw hK hc i pins s σ H E I hf st hg
    subst hP hw hK
    obtain ⟨f0, f1, f2, f3, f4, f5⟩ := hf it (by simp)
    obtain ⟨hin, hit⟩ := st
    obtain ⟨hge, _⟩ := hg
    rw [show (xs.length : Int) - 1 - ((i : Nat) : Int) = -1 by omega] at hit
    exact next_end (I.ok.hd hc) hit fun h' eb => ⟨rfl, I.turned (t' := s.toks) (fun b o hb e => eb b o hb e) f0 f1 f3 f4 f5⟩
  self := fun A i s Q E st h => iter_self st.2 h
def iRv (K : PySem.W.Frag) (ta : TA) : TI := fun σ H R => ta σ H fun vs H1 => ∃ (b : Bool) (a : Addr) (xs : List V), vs = [.ref a] ∧ xs.length ≤ sizeLine ∧ Sk b K H1 a xs ∧ R (ItG xs.length (fun H => Sk b K H a xs) (yRev xs)) H1
section
variable {X : Cx} {tg : Expr}
theorem pi_rv {e : Expr} {ta : TA} {p pos : Pos} (hg : Gl X "reversed") (hm : X.mg "reversed" = none) (ha : PA X [e] ta) (hs : starEach [e] X.env = [(false, eval e X.env)] := by rfl) : PI X tg (.Call (.Name "reversed" p) [e] [] pos) (iRv X.K ta) := by
  refine ⟨fun pins s σ H R I h => Call_ (ld_blt I hg hm PyProof.Rows.boot_reversed (PyProof.Rows.callWith_type1 (thn (ha.run pos pins s σ H _ I h) fun us s1 hh => ?_) hs rfl))⟩
  obtain ⟨vs, H1, I1, r1, b, a, xs, rfl, hz, hq, q⟩ := hh
  rw [sizeLine_eq] at hz
  cases r1 with
  | cons r rr =>
    cases rr
    cases r
    cases b with
    | true =>
      have hq' : SqL X.K H1 a xs := hq
      obtain ⟨its, rv, p', _⟩ := I1.list hq'
      have hl := rv.length
      have e1 : ((its.toArray.size : Nat) : Int) - 1 = (xs.length : Int) - 1 - ((0 : Nat) : Int) := by simp only [List.size_toArray]; omega
      refine call_reversed_list p'.isList (wpAny_pyIter_revIter (l := a) (i := ((its.toArray.size : Nat) : Int) - 1) ⟨_, Heap.get?_push_size _ rfl, rfl, rfl⟩ ?_)
      refine pi_one (tk := s1.toks) I1 _ (turn_imp (J2 := ItG xs.length (fun H => Sk true X.K H a xs) (yRev xs)) (turn_rev a _ xs.length) (fun i H g => ⟨g.1, xs, _, g.2, getE (by have := g.1; omega)⟩) (fun i H x H' g y => ⟨g.1, y.1, y.2 xs g.2⟩) fun i H g => g.1) ⟨Nat.zero_le _, ?_⟩ q
      rw [← e1]
      exact ⟨_, Heap.get?_push_size _ rfl, rfl, rfl⟩
    | false =>
      have hq' : SqT X.K H1 a xs := hq
      obtain ⟨its, rv, p', _⟩ := I1.tuple hq'
      have hl := rv.length
      have e1 : ((its.toArray.size : Nat) : Int) - 1 = (xs.length : Int) - 1 - ((0 : Nat) : Int) := by simp only [List.size_toArray]; omega
      refine call_rev p' (by simp only [List.size_toArray]; omega) fun tk => iter_self (t := a) (i := ((its.toArray.size : Nat) : Int) - 1) (Heap.get?_push_size _ rfl) ?_
      refine pi_one (tk := tk) I1 _ (turn_revT xs a _ (by omega)) ⟨Nat.zero_le _, ?_⟩ q
      rw [← e1]
      exact Heap.get?_push_size _ rfl
end
end VR

set_option Elab.async false
set_option linter.all false
set_option maxRecDepth 100000
set_option maxHeartbeats 4000000
/-! Part C: operators whatever the kinds of their operands, calls of the text's own defs, and one lemma a step for the readings. -/
namespace VC
open PySem PySem.Spec PyProof.Rows L2 VI

/-! ### operators of any kinds -/
section
variable {X : Cx}
theorem OpR_or {f : Value → Value → Sem Value} {r r' : R2} (h : OpR X f r) (h' : OpR X f r') : OpR X f (fun x y H Q => r x y H Q ∨ r' x y H Q) := by
  intro pins s σ H x y v u Q I r1 r2 q
  rcases q with q | q
  · exact h pins s σ H x y v u Q I r1 r2 q
  · exact h' pins s σ H x y v u Q I r1 r2 q
def rAddS : R2 := fun x y H Q => ∃ i j, x = .str i ∧ y = .str j ∧ i.length + j.length ≤ sizeLine ∧ Q (.str (i ++ j)) H
/-- x + y -/
def rAddA (K : PySem.W.Frag) : R2 := fun x y H Q => rI0 (fun i j => .int (i + j)) x y H Q ∨ rAddS x y H Q ∨ rCat x y H Q ∨ rCatA K x y H Q
theorem op_addA : OpR X (binaryOp .Add) (rAddA X.K) := OpR_or op_add (OpR_or op_add_str (OpR_or op_cat op_catA))
/-- x * y -/
def rMulA : R2 := fun x y H Q => rI CMul (fun i j => .int (i * j)) x y H Q ∨ rI CMulW (fun i j => .int (i * j)) x y H Q ∨ rRep x y H Q
theorem op_mulA : OpR X (binaryOp .Mult) rMulA := OpR_or op_mul (OpR_or op_mulW op_rep)
def rDivA : R2 := fun x y H Q => rI CDiv (fun i j => .int (i / j)) x y H Q ∨ rI CDivW (fun i j => .int (i / j)) x y H Q
theorem op_divA : OpR X (binaryOp .FloorDiv) rDivA := OpR_or op_fdiv op_fdivW
def rModA : R2 := rI (fun _ j => 0 < j) fun i j => .int (i % j)
theorem op_modA : OpR X (binaryOp .Mod) rModA := op_mod
def rShl : R2 := rI CPow fun i j => .int (i * 2 ^ j.toNat)
theorem op_shlA : OpR X (binaryOp .LShift) rShl := op_shl
def rShr : R2 := rI (fun _ j => 0 ≤ j) fun i j => .int (i / 2 ^ j.toNat)
theorem op_shrA : OpR X (binaryOp .RShift) rShr := op_shr
def rPow : R2 := rI CPow fun i j => .int (i ^ j.toNat)
theorem op_powA : OpR X (binaryOp .Pow) rPow := op_pow
def rSub : R2 := rI0 fun i j => .int (i - j)
theorem op_subA : OpR X (binaryOp .Sub) rSub := op_sub
def rAnd : R2 := rI0 fun i j => .int (Builtin.bitAnd i j)
theorem op_andA : OpR X (binaryOp .BitAnd) rAnd := op_and
def rOr : R2 := rI0 fun i j => .int (Builtin.bitOr i j)
theorem op_orA : OpR X (binaryOp .BitOr) rOr := op_or
def rXor : R2 := rI0 fun i j => .int (Builtin.bitXor i j)
theorem op_xorA : OpR X (binaryOp .BitXor) rXor := op_xor
/-- x == y -/
def rEqA (K : PySem.W.Frag) : R2 := fun x y H Q => rEq x y H Q ∨ rEqD K x y H Q
theorem op_eqA (hu : X.A.units + 64 < cLine) : OpR X (compareOp .Eq) (rEqA X.K) := OpR_or op_eq (op_eqD hu)
def rNeA (K : PySem.W.Frag) : R2 := fun x y H Q => rNe x y H Q ∨ rNeD K x y H Q
theorem op_neA (hu : X.A.units + 64 < cLine) : OpR X (compareOp .NotEq) (rNeA X.K) := OpR_or op_ne (op_neD hu)
def rLt : R2 := rI0 fun i j => .bl (decide (i < j))
theorem op_ltA : OpR X (compareOp .Lt) rLt := op_lt
def rLe : R2 := rI0 fun i j => .bl (decide (i ≤ j))
theorem op_leA : OpR X (compareOp .LtE) rLe := op_le
def rGt : R2 := rI0 fun i j => .bl (decide (j < i))
theorem op_gtA : OpR X (compareOp .Gt) rGt := op_gt
def rGe : R2 := rI0 fun i j => .bl (decide (j ≤ i))
theorem op_geA : OpR X (compareOp .GtE) rGe := op_ge
def rIsN : R2 := fun x y H Q => y = .non ∧ Q (.bl (decide (x = .non))) H
theorem op_isNA : OpR X (compareOp .Is) rIsN := op_isN
def rNotN : R2 := fun x y H Q => y = .non ∧ Q (.bl (!decide (x = .non))) H
theorem op_notNA : OpR X (compareOp .IsNot) rNotN := op_notN
def rNeg : V → Hp → VK → Prop := rU fun i => .int (-i)
theorem un_negA : UnR X (unaryOp .USub) rNeg := un_neg
/-- x[lo:hi], x a list, a tuple, a text -/
def rSlQ (K : PySem.W.Frag) : V → Option Int → Option Int → Hp → VK → Prop := fun x lo hi H Q => rSlL K x lo hi H Q ∨ L2.rSlA K x lo hi H Q ∨ rSlS x lo hi H Q
theorem sl_any : SlR X (rSlQ X.K) := sl_list.or (sl_tupA.or sl_str)
theorem pe_slA {e : Expr} {te : TE} {lo hi : Option Expr} {tl th : TO} {p2 pos : Pos} (he : PE X e te) (hl : PO X lo tl) (hu : PO X hi th) : PE X (.Subscript e (.Slice lo hi none p2) pos) (tSl (rSlQ X.K) te tl th) := pe_slice sl_any he hl hu
end

/-! ### a def of the text -/
/-- the def x, called: ps its parameters, kss the lists of parameters that are handed by name -/
structure Cl (P : Program) (w : World) (K : PySem.W.Frag) (mg : Str → Option Value) (base : Heap) (k : Nat) (x : Str) (ps : List Str) (sp : Sp) (kss : List (List Str)) : Prop where
  is : ∃ (f : Addr) (fd : FuncData), mg x = some (.ref f) ∧ PySem.W.keepIn K (.ref f) = true ∧ FnOk P w K mg base (L2.CX P w) k f fd ps sp ∧
    ∀ ks ∈ kss, ∀ (s : Shared) (us ws : List Value), (us ++ ws).length = ps.length → ws.length = ks.length → BindsTo s fd ⟨us, ks.zip ws⟩ (ps.zip (us ++ ws))
theorem Cl.imp {P : Program} {w : World} {K : PySem.W.Frag} {mg : Str → Option Value} {base : Heap} {k : Nat} {x : Str} {ps : List Str} {sp sp' : Sp} {kss : List (List Str)} (C : Cl P w K mg base k x ps sp kss) (h : ∀ vs H Q E, sp' vs H Q E → sp vs H Q E) : Cl P w K mg base k x ps sp' kss := by
  obtain ⟨f, fd, a, b, F, d⟩ := C.is
  exact ⟨f, fd, a, b, F.imp h, d⟩
section
variable {X : Cx} {k j : Nat} {x : Str} {ps : List Str} {sp : Sp} {kss : List (List Str)} {E : L2.St → XK} {p pos : Pos} {e : Expr} {es : List Expr} {t tk : TA}
theorem pe_cl (C : Cl X.prog X.w X.K X.mg X.base k x ps sp kss) (hr : Room j X.A) (hk : k ≤ j) (hx : ∀ σ, PassesAt (L2.CX X.prog X.w) X σ (E σ)) (ha : PA X (e :: es) t) (h0 : [] ∈ kss := by simp) (hg : Gl X x := by rfl) (hdb : (x == ("__debug__" : Str)) = false := by decide)
    (he : starEach (e :: es) X.env = (false, eval e X.env) :: starEach es X.env := by rfl) (hpl : (backTo pos (starEach es X.env)).any (·.1) = false := by rfl) : PE X (.Call (.Name x p) (e :: es) [] pos) (tCallS sp E t) := by
  obtain ⟨f, fd, hm, kp, F, b⟩ := C.is
  exact pe_callS F (hr.mono hk) hg hm kp (fun s us _ hl => by
    have z := b [] h0 s us [] (by simpa using hl) rfl
    simpa using z) hx ha hdb he hpl
/-- f(e, .., k = e, ..) -/
def tCallKS (sp : Sp) (E : L2.St → XK) (n : Nat) (t tk : TA) : TE := fun σ H Q => t σ H fun vs H1 => tk σ H1 fun zs H2 => zs.length = n ∧ sp (vs ++ zs) H2 Q (E σ)
theorem pe_clK {kws : List Keyword} (ks : List Str) (C : Cl X.prog X.w X.K X.mg X.base k x ps sp kss) (hr : Room j X.A) (hk : k ≤ j) (hx : ∀ σ, PassesAt (L2.CX X.prog X.w) X σ (E σ)) (ha : PA X (e :: es) t) (hkw : PK X kws tk) (h0 : ks ∈ kss := by simp) (hg : Gl X x := by rfl) (hdb : (x == ("__debug__" : Str)) = false := by decide)
    (hall : (backToKw pos (keywordEach kws X.env)).all (·.1.isSome) = true := by rfl) (hks : (backToKw pos (keywordEach kws X.env)).filterMap (·.1) = ks := by rfl)
    (he : starEach (e :: es) X.env = (false, eval e X.env) :: starEach es X.env := by rfl) (hpl : ((backTo pos (starEach (e :: es) X.env)).any (·.1) || (backToKw pos (keywordEach kws X.env)).any (·.1.isNone)) = false := by rfl) : PE X (.Call (.Name x p) (e :: es) kws pos) (tCallKS sp E ks.length t tk) := by
  obtain ⟨f, fd, hm, kp, F, b⟩ := C.is
  refine ⟨fun pins s σ H Q I h => wpAny_Call_Name_kw (ld_glob I hg hm ?_ hdb)⟩
  refine PySem.W.callWith_KW (h₀ := X.base) I.ok.mod.kin kp hall (thn (ha.run pos pins s σ H _ I h) fun us s1 hh => ?_) hpl he
  obtain ⟨vs, H1, I1, r, q⟩ := hh
  refine thn (hkw.run pos pins s1 σ H1 _ I1 q) fun ws s2 hh2 => ?_
  obtain ⟨zs, H2, I2, rz, hlz, q2⟩ := hh2
  refine ⟨I2.kIn, ?_⟩
  rw [hks]
  have r2 : Vals (vs ++ zs) (us ++ ws) := r.append rz
  have hl : (us ++ ws).length = ps.length := by rw [← r2.length]; exact F.len _ _ _ _ q2
  have bd := b ks h0 s2 us ws hl (by rw [← rz.length]; exact hlz)
  refine wpAny_call (codeAny_mono (F.run X.A X.stack s2 H2 ⟨us, ks.zip ws⟩ (us ++ ws) (vs ++ zs) Q (E σ) (hr.mono hk) I2.env0 bd r2 q2) fun r' s' hq => ?_)
  cases r' with
  | error e' => exact hx σ pins H2 s2 e' s' I2 hq
  | ok fl =>
    cases fl with
    | ret u => exact I2.after hq
    | next => exact False.elim hq
    | brk => exact False.elim hq
    | cont => exact False.elim hq
end
/-- the def is made a Cl -/
theorem cl_of {P : Program} {w : World} {K : PySem.W.Frag} {mg : Str → Option Value} {base : Heap} {k : Nat} {x : Str} {st : Stmt} {f : Addr} {fd : FuncData} {N ps : List Str} {sp : Sp} {kss : List (List Str)} (hm : mg x = some (.ref f)) (F : Fun K x x st f fd)
    (hb : ∀ (kV doc pm : Value) (an : Option Addr) (cdv ct : Value), ∀ ks ∈ kss, ∀ (us ws : List Value), (us ++ ws).length = ps.length → ws.length = ks.length → bindArgs (PySem.W.fnOf x x (defArgs st) (defBody st) (defScope st) .none kV doc pm an cdv ct) ⟨us, ks.zip ws⟩ = pure (ps.zip (us ++ ws)))
    (S : FnScope N ps (defScope st)) (len : ∀ vs H Q E, sp vs H Q E → vs.length = ps.length)
    (body : ∀ (cdv : Value) (A : Around) (outer : List Env) (s : Shared) (H : Hp) (vs : List V) (Q : VK) (E : XK), Room k (A.deeper (envOfC x (defScope st) s.heap.objs.size f cdv)) → sp vs H Q E →
      ∃ t, PSs (cxOf (L2.CX P w) P w K mg base N x (defScope st) f cdv A outer s H E) (defBody st) t ∧ t { nx := fun _ H' => Q .non H', rt := Q } (start N vs) H) : Cl P w K mg base (k + 1) x ps sp kss := by
  refine ⟨⟨f, fd, hm, F.kp, F.okX S len body, fun ks hks s us ws hl hlw => ?_⟩⟩
  obtain ⟨oc, od, kV, doc, pm, an, cdv, ct, osl, rfl, lk, hcd⟩ := F.ex
  exact .of_eq (hb kV doc pm an cdv ct ks hks us ws hl hlw)

/-! ### one lemma a step of a reading -/
section
variable {σ : L2.St} {H : Hp} {Q : VK} {D : Ends} {K : PySem.W.Frag} {x y v : V} {i j : Int} {ta tb tc te : TE} {t u : TS} {tl : TA} {g : TG}
theorem i_seq (h : t { D with nx := u D } σ H) : tSeq t u D σ H := h
theorem i_next (h : D.nx σ H) : tNext D σ H := h
theorem i_asg (h : te σ H fun x H1 => g x σ H1 D.nx) : tAsg te g D σ H := h
theorem i_ret (h : te σ H D.rt) : tRet te D σ H := h
theorem i_retN (h : D.rt .non H) : tRetN D σ H := h
theorem i_drop (h : te σ H fun _ H1 => D.nx σ H1) : tDrop te D σ H := h
theorem i_var {n : Nat} (e : σ[n]? = some (some v)) (h : Q v H) : tVar n σ H Q := ⟨v, e, h⟩
theorem i_c (h : Q v H) : tC v σ H Q := h
theorem i_op {r : R2} (h : ta σ H fun x H1 => tb σ H1 fun y H2 => r x y H2 Q) : tOp r ta tb σ H Q := h
theorem i_un {r : V → Hp → VK → Prop} (h : ta σ H fun x H1 => r x H1 Q) : tUn r ta σ H Q := h
theorem i_nil {R : List V → Hp → Prop} (h : R [] H) : tNil σ H R := h
theorem i_cons {R : List V → Hp → Prop} (h : ta σ H fun x H1 => tl σ H1 fun xs H2 => R (x :: xs) H2) : tCons ta tl σ H R := h
theorem i_cb {r : List V → Hp → VK → Prop} (h : tl σ H fun vs H1 => r vs H1 Q) : tCB r tl σ H Q := h
theorem i_calls {sp : Sp} {E : L2.St → XK} (h : tl σ H fun vs H1 => sp vs H1 Q (E σ)) : tCallS sp E tl σ H Q := h
theorem i_callks {sp : Sp} {E : L2.St → XK} {n : Nat} {tk : TA} (h : tl σ H fun vs H1 => tk σ H1 fun zs H2 => zs.length = n ∧ sp (vs ++ zs) H2 Q (E σ)) : tCallKS sp E n tl tk σ H Q := h
theorem i_name {n : Nat} {R : L2.St → Hp → Prop} {σ' : L2.St} (e : σ.set n (some v) = σ') (h : R σ' H) : gName n v σ H R := by
  unfold gName
  rw [e]
  exact h
theorem i_tup (h : tl σ H fun xs H1 => xs.length ≤ sizeLine ∧ ∀ p, H1 p = none → Q (.ref p) (upd H1 p (.tup xs))) : tTup tl σ H Q := h
theorem i_lst (h : tl σ H fun xs H1 => xs.length ≤ sizeLine ∧ ∀ p, H1 p = none → Q (.ref p) (upd H1 p (.lst xs))) : tLst tl σ H Q := h
theorem i_ifs {c : TT} (h : c σ H fun b H1 => if b = true then t D σ H1 else u D σ H1) : tIfS c t u D σ H := h
theorem i_ife {c : TT} (h : c σ H fun b H1 => if b = true then ta σ H1 Q else tb σ H1 Q) : tIf c ta tb σ H Q := h
theorem i_test {R : Bool → Hp → Prop} (h : te σ H fun x H1 => ∃ k, x = .bl k ∧ R k H1) : tTest te σ H R := h
theorem i_tb {R : Bool → Hp → Prop} (h : te σ H fun x H1 => ∃ k, x = .bl k ∧ R k H1) : tB te σ H R := h
theorem i_bl {k : Bool} {R : Bool → Prop} (h : R k) : ∃ c, V.bl k = .bl c ∧ R c := ⟨k, rfl, h⟩
theorem i_and {p q : TT} {R : Bool → Hp → Prop} (h : p σ H fun c H1 => if c = true then q σ H1 R else R false H1) : tAnd p q σ H R := h
theorem i_or {p q : TT} {R : Bool → Hp → Prop} (h : p σ H fun c H1 => if c = true then R true H1 else q σ H1 R) : tOr p q σ H R := h
theorem i_not {p : TT} {R : Bool → Hp → Prop} (h : p σ H fun c H1 => R (!c) H1) : tNot p σ H R := h
theorem i_andv (h : ta σ H fun x H1 => ∃ c, x = .bl c ∧ if c = true then tb σ H1 Q else Q (.bl false) H1) : tAndV ta tb σ H Q := h
theorem i_orv (h : ta σ H fun x H1 => ∃ c, x = .bl c ∧ if c = true then Q (.bl true) H1 else tb σ H1 Q) : tOrV ta tb σ H Q := h
theorem i_notv (h : ta σ H fun x H1 => ∃ c, x = .bl c ∧ Q (.bl (!c)) H1) : tNotV ta σ H Q := h
theorem i_chain {r r' : R2} (h : ta σ H fun x H1 => tb σ H1 fun y H2 => r x y H2 fun z H3 => ∃ k, z = .bl k ∧ (if k = true then tc σ H3 fun w' H4 => r' y w' H4 Q else Q (.bl false) H3)) : tChain r r' ta tb tc σ H Q := h
-- operators
theorem i_addI (h : Q (.int (i + j)) H) : rAddA K (.int i) (.int j) H Q := .inl ⟨_, _, rfl, rfl, h⟩
theorem i_addS {a b : Str} (z : a.length + b.length ≤ sizeLine) (h : Q (.str (a ++ b)) H) : rAddA K (.str a) (.str b) H Q := .inr (.inl ⟨_, _, rfl, rfl, z, h⟩)
theorem i_addL {a b : Addr} {xs ys : List V} (h1 : H a = some (.lst xs)) (h2 : H b = some (.lst ys)) (z : xs.length + ys.length ≤ sizeLine) (h : ∀ p, H p = none → Q (.ref p) (upd H p (.lst (xs ++ ys)))) : rAddA K (.ref a) (.ref b) H Q := .inr (.inr (.inl ⟨_, _, _, _, rfl, rfl, h1, h2, z, h⟩))
theorem i_sub (h : Q (.int (i - j)) H) : rSub (.int i) (.int j) H Q := ⟨_, _, rfl, rfl, h⟩
theorem i_mulI (c : CMul i j) (h : Q (.int (i * j)) H) : rMulA (.int i) (.int j) H Q := .inl ⟨_, _, rfl, rfl, c, h⟩
theorem i_mulW (c : CMulW i j) (h : Q (.int (i * j)) H) : rMulA (.int i) (.int j) H Q := .inr (.inl ⟨_, _, rfl, rfl, c, h⟩)
theorem i_div (c : CDiv i j) (h : Q (.int (i / j)) H) : rDivA (.int i) (.int j) H Q := .inl ⟨_, _, rfl, rfl, c, h⟩
theorem i_divW (c : CDivW i j) (h : Q (.int (i / j)) H) : rDivA (.int i) (.int j) H Q := .inr ⟨_, _, rfl, rfl, c, h⟩
theorem i_mod (c : 0 < j) (h : Q (.int (i % j)) H) : rModA (.int i) (.int j) H Q := ⟨_, _, rfl, rfl, c, h⟩
theorem i_shl (c : CPow i j) (h : Q (.int (i * 2 ^ j.toNat)) H) : rShl (.int i) (.int j) H Q := ⟨_, _, rfl, rfl, c, h⟩
theorem i_shr (c : 0 ≤ j) (h : Q (.int (i / 2 ^ j.toNat)) H) : rShr (.int i) (.int j) H Q := ⟨_, _, rfl, rfl, c, h⟩
theorem i_pow (c : CPow i j) (h : Q (.int (i ^ j.toNat)) H) : rPow (.int i) (.int j) H Q := ⟨_, _, rfl, rfl, c, h⟩
theorem i_band (h : Q (.int (Builtin.bitAnd i j)) H) : rAnd (.int i) (.int j) H Q := ⟨_, _, rfl, rfl, h⟩
theorem i_bor (h : Q (.int (Builtin.bitOr i j)) H) : rOr (.int i) (.int j) H Q := ⟨_, _, rfl, rfl, h⟩
theorem i_bxor (h : Q (.int (Builtin.bitXor i j)) H) : rXor (.int i) (.int j) H Q := ⟨_, _, rfl, rfl, h⟩
theorem i_neg (h : Q (.int (-i)) H) : rNeg (.int i) H Q := ⟨_, rfl, h⟩
theorem i_eqI (h : Q (.bl (decide (i = j))) H) : rEqA K (.int i) (.int j) H Q := .inl ⟨rfl, by rw [show decide (V.int i = V.int j) = decide (i = j) by simp]; exact h⟩
theorem i_eqS {a b : Str} (h : Q (.bl (decide (a = b))) H) : rEqA K (.str a) (.str b) H Q := .inl ⟨rfl, by rw [show decide (V.str a = V.str b) = decide (a = b) by simp]; exact h⟩
theorem i_eqB {a b : Bool} (h : Q (.bl (decide (a = b))) H) : rEqA K (.bl a) (.bl b) H Q := .inl ⟨rfl, by rw [show decide (V.bl a = V.bl b) = decide (a = b) by simp]; exact h⟩
theorem i_neI (h : Q (.bl (!decide (i = j))) H) : rNeA K (.int i) (.int j) H Q := .inl ⟨rfl, by rw [show decide (V.int i = V.int j) = decide (i = j) by simp]; exact h⟩
theorem i_neS {a b : Str} (h : Q (.bl (!decide (a = b))) H) : rNeA K (.str a) (.str b) H Q := .inl ⟨rfl, by rw [show decide (V.str a = V.str b) = decide (a = b) by simp]; exact h⟩
theorem i_neB {a b : Bool} (h : Q (.bl (!decide (a = b))) H) : rNeA K (.bl a) (.bl b) H Q := .inl ⟨rfl, by rw [show decide (V.bl a = V.bl b) = decide (a = b) by simp]; exact h⟩
theorem i_lt (h : Q (.bl (decide (i < j))) H) : rLt (.int i) (.int j) H Q := ⟨_, _, rfl, rfl, h⟩
theorem i_le (h : Q (.bl (decide (i ≤ j))) H) : rLe (.int i) (.int j) H Q := ⟨_, _, rfl, rfl, h⟩
theorem i_gt (h : Q (.bl (decide (j < i))) H) : rGt (.int i) (.int j) H Q := ⟨_, _, rfl, rfl, h⟩
theorem i_ge (h : Q (.bl (decide (j ≤ i))) H) : rGe (.int i) (.int j) H Q := ⟨_, _, rfl, rfl, h⟩
theorem i_isN (h : Q (.bl (decide (x = .non))) H) : rIsN x .non H Q := ⟨rfl, h⟩
theorem i_notN (h : Q (.bl (!decide (x = .non))) H) : rNotN x .non H Q := ⟨rfl, h⟩
theorem i_if {c : Prop} [Decidable c] {A B : Prop} (h1 : c → A) (h2 : ¬ c → B) : if decide c = true then A else B := by
  by_cases h : c
  · rw [if_pos (decide_eq_true h)]
    exact h1 h
  · rw [decide_eq_false h, if_neg Bool.false_ne_true]
    exact h2 h
theorem i_ifn {c : Prop} [Decidable c] {A B : Prop} (h1 : ¬ c → A) (h2 : c → B) : if (!decide c) = true then A else B := by
  by_cases h : c
  · rw [decide_eq_true h]
    exact iteF (h2 h)
  · rw [decide_eq_false h]
    exact iteT (h1 h)
theorem i_ifb {b : Bool} {A B : Prop} (h1 : b = true → A) (h2 : b = false → B) : if b = true then A else B := by
  cases b with
  | true => exact iteT (h1 rfl)
  | false => exact iteF (h2 rfl)
-- sequences
theorem i_ixL {a : Addr} {xs : List V} (h1 : SqL K H a xs) (h2 : atI xs i = some v) (h : Q v H) : rIx K (.ref a) (.int i) H Q := .inl ⟨_, _, _, _, rfl, rfl, h1, h2, h⟩
theorem i_ixT {a : Addr} {xs : List V} (h1 : SqT K H a xs) (h2 : atI xs i = some v) (h : Q v H) : rIx K (.ref a) (.int i) H Q := .inr (.inl ⟨_, _, _, _, rfl, rfl, h1, h2, h⟩)
theorem i_tmk {C : Addr} {n : Nat} {fs : List V → List (Str × V)} {W : WX} (h : tl σ H fun vs H1 => vs.length = n ∧ ∀ d, H1 d = none → W (.ref C) (some d) σ (upd H1 d (.xd (fs vs)))) : VX.tRaiseX C n fs W tl D σ H := h
end
end VC

set_option Elab.async false
set_option linter.all false
set_option maxRecDepth 100000
set_option maxHeartbeats 4000000
/-! Part D: calls where no guard runs, data by their addresses, heaps but for one address. -/
namespace VD
open PySem PySem.Spec PyProof.Rows L2 VI VC VG
theorem passN {X : Cx} (σ : L2.St) : PassesAt (L2.CX X.prog X.w) X σ E0 := fun pins H s e s' I c => passL pins σ H s e s' I c

/-! ### defs that are called where no guard runs -/
structure ClG (P : Program) (w : World) (K : PySem.W.Frag) (mg : Str → Option Value) (base : Heap) (k : Nat) (x : Str) (ps : List Str) (sp : Sp) : Prop where
  is : ∃ (f : Addr) (fd : FuncData), mg x = some (.ref f) ∧ PySem.W.keepIn K (.ref f) = true ∧ FnG P w K mg base (L2.CX P w) k f fd ps sp ∧
    ∀ (s : Shared) (us : List Value), us.length = ps.length → BindsTo s fd ⟨us, []⟩ (ps.zip us)
section
variable {X : Cx} {k j : Nat} {x : Str} {ps : List Str} {sp : Sp} {E : L2.St → XK} {p pos : Pos} {e : Expr} {es : List Expr} {t tk : TA}
theorem pe_callGX (C : ClG X.prog X.w X.K X.mg X.base k x ps sp) (hgd : X.A.guards = some []) (hr : Room j X.A) (hk : k ≤ j) (hx : ∀ σ, PassesAt (L2.CX X.prog X.w) X σ (E σ)) (ha : PA X (e :: es) t) (hg : Gl X x := by rfl) (hdb : (x == ("__debug__" : Str)) = false := by decide)
    (he : starEach (e :: es) X.env = (false, eval e X.env) :: starEach es X.env := by rfl) (hpl : (backTo pos (starEach es X.env)).any (·.1) = false := by rfl) : PE X (.Call (.Name x p) (e :: es) [] pos) (tCallS sp E t) := by
  obtain ⟨f, fd, hm, kp, F, b⟩ := C.is
  refine ⟨fun pins s σ H Q I h => wpAny_Call_Name_kw (ld_glob I hg hm ?_ hdb)⟩
  refine PySem.W.callWith_K (h₀ := X.base) I.ok.mod.kin kp (thn (ha.run pos pins s σ H _ I h) fun us s1 hh => ?_) he hpl
  obtain ⟨vs, H1, I1, r, q⟩ := hh
  have hl : us.length = ps.length := by rw [← r.length]; exact F.size _ _ _ _ q
  refine ⟨I1.kIn, wpAny_call (codeAny_mono (F.go X.A X.stack s1 H1 ⟨us, []⟩ us vs Q (E σ) hgd (hr.mono hk) I1.env0 (b s1 us hl) r q) fun r' s' hq => ?_)⟩
  cases r' with
  | error e' => exact hx σ pins H1 s1 e' s' I1 hq
  | ok fl =>
    cases fl with
    | ret u => exact I1.after hq
    | next => exact False.elim hq
    | brk => exact False.elim hq
    | cont => exact False.elim hq
end
theorem clG_of {P : Program} {w : World} {K : PySem.W.Frag} {mg : Str → Option Value} {base : Heap} {k : Nat} {x : Str} {st : Stmt} {f : Addr} {fd : FuncData} {N ps : List Str} {sp : Sp} (hm : mg x = some (.ref f)) (F : Fun K x x st f fd)
    (hb : ∀ (kV doc pm : Value) (an : Option Addr) (cdv ct : Value) (us : List Value), us.length = ps.length → bindArgs (PySem.W.fnOf x x (defArgs st) (defBody st) (defScope st) .none kV doc pm an cdv ct) ⟨us, []⟩ = pure (ps.zip us))
    (S : FnScope N ps (defScope st)) (len : ∀ vs H Q E, sp vs H Q E → vs.length = ps.length)
    (body : ∀ (cdv : Value) (A : Around) (outer : List Env) (s : Shared) (H : Hp) (vs : List V) (Q : VK) (E : XK), A.guards = some [] → Room k (A.deeper (envOfC x (defScope st) s.heap.objs.size f cdv)) → sp vs H Q E →
      ∃ t, PSs (cxOf (L2.CX P w) P w K mg base N x (defScope st) f cdv A outer s H E) (defBody st) t ∧ t { nx := fun _ H' => Q .non H', rt := Q } (start N vs) H) : ClG P w K mg base (k + 1) x ps sp := by
  refine ⟨⟨f, fd, hm, F.kp, fn_ofG F S len body, fun s us hl => ?_⟩⟩
  obtain ⟨oc, od, kV, doc, pm, an, cdv, ct, osl, rfl, lk, hcd⟩ := F.ex
  exact .of_eq (hb kV doc pm an cdv ct us hl)

/-! ### a caught exception's field -/
theorem pe_xfA {X : Cx} {a C : Addr} {oe : Obj} {cls : Value} {d : Option Addr} {pn : List (Addr × Obj)} {e : Expr} {te : TE} {pos : Pos} {n : Str} (T : XfC X.K C) (hno : PySem.W.findIn X.K (.ref C) n = some none)
    (hz : Zc cls d oe) (hf : ∃ vs, oe.data = .fields vs) (he : PE (X.suite a ((a, oe) :: pn)) e te) (hb : attributeBase e n X.env (eval e X.env) = eval e X.env := by rfl) :
    PE (X.suite a ((a, oe) :: pn)) (.Attribute e n pos) (tXf a cls d C n te) := pe_xf T hno hz hf he hb

/-! ### the law's end, with the guards -/
theorem law_callG {P : Program} {w : World} {K : PySem.W.Frag} {mg mb : Str → Option Value} {k : Nat} {fa a : Addr} {x : Str} {fn : Str} {sp : Sp} {s1 : Shared} {vs : List Value} {ns : List Int}
    (KX : K.In s1.heap) (hns : s1.heap.Ns mainGlobals mg) (hb : s1.heap.Ns builtinsNs mb) (hbb : ∀ x : Str, x ≠ "__name__" → mb x = bootBuiltins x) (hlim : s1.heap.NoLimit) (hg : s1.gens = #[])
    (ha : s1.heap.get? a = some { cls := .type "list", data := .seq vs.toArray }) (hi : IntsAre vs ns) (hl : ns.length ≤ sizeLine) (hr : Room k callerA) (hfa : mg fn = some (.ref fa))
    (F : ∀ base : Heap, K.In base → base.Ns mainGlobals mg → ClG P w K mg base k fn [x] sp)
    (hsp : ∀ H : Hp, Only H → SqL K H a (ns.map V.int) → sp [.ref a] H (fun v _ => v = .bl true) fun _ _ _ => False) :
    codeAny (model P w) callerA (.call (.ref fa) ⟨[.ref a], []⟩) (fun r s' => r = .ok (.ret (.bool true)) ∧ OldK s1.heap s'.heap ∧ s'.os = s1.os ∧ AllBare s'.gens) s1 := by
  have rv := vals_ints hi
  have lenV := hi.length
  have core : ∀ H : Hp, Only H → SqL K H a (ns.map V.int) → HOk P w H s1.heap → (∀ b, H b ≠ none → b = a) → (H a ≠ none → K.lookup a = none) →
      codeAny (model P w) callerA (.call (.ref fa) ⟨[.ref a], []⟩) (fun r s' => r = .ok (.ret (.bool true)) ∧ OldK s1.heap s'.heap ∧ s'.os = s1.os ∧ AllBare s'.gens) s1 := by
    intro H hO hS hok hA hK
    have notA : ∀ {b : Addr} {o : Obj} {es : Array DictEntry} {ep : Nat}, s1.heap.get? b = some o → o.data = .dict es ep → H b = none := fun {b o es ep} e d => by
      cases q : H b with
      | none => rfl
      | some u =>
        obtain rfl : b = a := hA b (by rw [q]; simp)
        rw [ha] at e
        cases e
        have d' : Data.seq vs.toArray _ = Data.dict es ep := d
        cases d'
    have nsK : ∀ {b : Addr} {m : Str → Option Value}, s1.heap.Ns b m → (hidT s1.heap H).Ns b m := fun {b m} ⟨o, es, ep, e, d, r⟩ => ⟨o, es, ep, hidT_get e (notA e d), d, r⟩
    have hKb : K.In (hidT s1.heap H) := fun b o e => hidT_get (KX b o e) (by
      cases q : H b with
      | none => rfl
      | some u =>
        obtain rfl : b = a := hA b (by rw [q]; simp)
        rw [hK (by rw [q]; simp)] at e
        cases e)
    have hM : Mod K mg (hidT s1.heap H) := ⟨hKb, nsK hns, ⟨mb, nsK hb, hbb⟩, let ⟨mc, h1, h2⟩ := hlim; ⟨mc, nsK h1, h2⟩⟩
    have e0 : Env0 P w K mg (hidT s1.heap H) callerA [] s1 H := ⟨rfl, hM, fun b o e => of_hidT e, Nat.le_of_eq (hidT_size _ _), trivial, fun b hb => absurd (show b ∈ ([] : List Addr) from hb) (by simp), hok, .of_eq hg⟩
    obtain ⟨f, fd, hm, _, G, bd⟩ := (F _ hKb (nsK hns)).is
    obtain rfl : f = fa := by
      rw [hfa] at hm
      cases hm
      rfl
    refine codeAny_mono (G.go callerA [] s1 H ⟨[.ref a], []⟩ [.ref a] [.ref a] _ _ rfl hr e0 (bd s1 [.ref a] rfl) (.cons rfl .nil) (hsp H hO hS)) fun r s' h => ?_
    cases r with
    | error e =>
      obtain ⟨_, _, _, _, _, _, _, _, _, _, _, _, z⟩ := h
      exact z.elim
    | ok fl =>
      cases fl with
      | next => exact False.elim h
      | brk => exact False.elim h
      | cont => exact False.elim h
      | ret u =>
        obtain ⟨v, H', os, bare, un, hok', r', q⟩ := h
        obtain rfl : v = .bl true := q
        obtain rfl : u = Value.bool true := r'
        refine ⟨rfl, OldK.of_keep fun b o e => ?_, os, bare⟩
        cases q : H b with
        | none => exact un.keep b o e q (by intro z; exact absurd (show b ∈ ([] : List Addr) from z) (by simp)) (by simp)
        | some u =>
          rcases hO b with z | ⟨ob, xs, z⟩
          · rw [q] at z
            cases z
          · obtain ⟨e1, _⟩ := hok b _ z
            obtain ⟨e2, _⟩ := hok' b _ (un.frzs b ob _ z)
            rw [e] at e1
            cases e1
            exact e2
  cases hk : K.lookup a with
  | some o =>
    have e := KX a o hk
    rw [ha] at e
    cases e
    exact core (fun _ => none) (fun _ => .inl rfl) (.inr ⟨_, vs.toArray, _, hk, rfl, rfl, rfl, by rw [List.size_toArray, lenV]; exact hl, by simpa using rv⟩) (fun b u z => by have z' : (none : Option HO) = some u := z; cases z') (fun b z => absurd rfl z) fun z => absurd rfl z
  | none =>
    refine core (fun b => if b = a then some (.frz { cls := .type "list", data := .seq vs.toArray } (.lst (ns.map V.int))) else none) (fun b => ?_) (.inl (.inr ⟨{ cls := .type "list", data := .seq vs.toArray }, if_pos rfl⟩)) (fun b u z => ?_) (fun b z => ?_) fun _ => hk
    · by_cases hb : b = a
      · exact .inr ⟨_, _, if_pos hb⟩
      · exact .inl (if_neg hb)
    · by_cases hb : b = a
      · have z' := (if_pos hb).symm.trans z
        cases z'
        subst hb
        exact ⟨ha, by rw [List.length_map]; exact hl, vs, _, rv, ha⟩
      · have z' := (if_neg hb).symm.trans z
        cases z'
    · by_cases hb : b = a
      · exact hb
      · exact absurd (if_neg hb) z
/-- the goal that k_head leaves, from the law's promise -/
theorem walk_G {l : PySem.W.OpenLaw} {n k : Nat} {q : Program} {loose : List Str} {XP : (Str → Option Value) → Heap → Prop} {YP : World → Heap → Prop} {d : DefRec} {K : Params → PySem.W.Frag} {sp : World → Sp} {x : Str}
    (hn : l.most = some n) (hn2 : n ≤ sizeLine) (hdf : d.params.defaults = []) (hr : Room k callerA) (hY : ∀ (w : World) (h : Heap), YP w h → (K w.params).In h)
    (F : ∀ (w : World) (mg : Str → Option Value) (h : Heap), (K w.params).In h → h.Ns mainGlobals mg → ∀ base : Heap, (K w.params).In base → base.Ns mainGlobals mg → ClG l.prog w (K w.params) mg base k d.name [x] (sp w))
    (hsp : ∀ (w : World) (H : Hp) (a : Addr) (ns : List Int), ns.length ≤ n → Only H → SqL (K w.params) H a (ns.map V.int) → sp w [.ref a] H (fun v _ => v = .bl true) fun _ _ _ => False) :
    PySem.W.WalkO q loose XP YP l.row.toRowW d [] (fun f vs => PySem.call f vs) := by
  refine Att.attach_call hn hdf fun w s0 s1 mg mb fa o pm cd doc a vs ns G Y ho hd hcd hmg hobj hints hlen hg => ?_
  have KX := hY w _ Y
  exact law_callG KX G.T.g G.T.b G.T.builtins G.T.nolimit hg hobj hints (Nat.le_trans hlen hn2) hr hmg (F w mg _ KX G.T.g) fun H hO hS => hsp w H a ns hlen hO hS
end VD

set_option Elab.async false
set_option linter.all false
set_option maxRecDepth 100000
set_option maxHeartbeats 4000000
/-! Part E: slots, heaps, data. -/
namespace VE
open PySem PySem.Spec PyProof.Rows L2 VI VC VG VD
section
variable {σ : L2.St} {H : Hp} {Q : VK} {v : V}
theorem i_v0 {r : L2.St} (h : Q v H) : tVar 0 (some v :: r) H Q := ⟨v, rfl, h⟩
theorem i_n0 {y : Option V} {r : L2.St} {R : L2.St → Hp → Prop} (h : R (some v :: r) H) : gName 0 v (y :: r) H R := h
theorem i_v1 {x0 : Option V} {r : L2.St} (h : Q v H) : tVar 1 (x0 :: some v :: r) H Q := ⟨v, rfl, h⟩
theorem i_n1 {x0 : Option V} {y : Option V} {r : L2.St} {R : L2.St → Hp → Prop} (h : R (x0 :: some v :: r) H) : gName 1 v (x0 :: y :: r) H R := h
theorem i_v2 {x0 x1 : Option V} {r : L2.St} (h : Q v H) : tVar 2 (x0 :: x1 :: some v :: r) H Q := ⟨v, rfl, h⟩
theorem i_n2 {x0 x1 : Option V} {y : Option V} {r : L2.St} {R : L2.St → Hp → Prop} (h : R (x0 :: x1 :: some v :: r) H) : gName 2 v (x0 :: x1 :: y :: r) H R := h
theorem i_v3 {x0 x1 x2 : Option V} {r : L2.St} (h : Q v H) : tVar 3 (x0 :: x1 :: x2 :: some v :: r) H Q := ⟨v, rfl, h⟩
theorem i_n3 {x0 x1 x2 : Option V} {y : Option V} {r : L2.St} {R : L2.St → Hp → Prop} (h : R (x0 :: x1 :: x2 :: some v :: r) H) : gName 3 v (x0 :: x1 :: x2 :: y :: r) H R := h
theorem i_v4 {x0 x1 x2 x3 : Option V} {r : L2.St} (h : Q v H) : tVar 4 (x0 :: x1 :: x2 :: x3 :: some v :: r) H Q := ⟨v, rfl, h⟩
theorem i_n4 {x0 x1 x2 x3 : Option V} {y : Option V} {r : L2.St} {R : L2.St → Hp → Prop} (h : R (x0 :: x1 :: x2 :: x3 :: some v :: r) H) : gName 4 v (x0 :: x1 :: x2 :: x3 :: y :: r) H R := h
theorem i_v5 {x0 x1 x2 x3 x4 : Option V} {r : L2.St} (h : Q v H) : tVar 5 (x0 :: x1 :: x2 :: x3 :: x4 :: some v :: r) H Q := ⟨v, rfl, h⟩
theorem i_n5 {x0 x1 x2 x3 x4 : Option V} {y : Option V} {r : L2.St} {R : L2.St → Hp → Prop} (h : R (x0 :: x1 :: x2 :: x3 :: x4 :: some v :: r) H) : gName 5 v (x0 :: x1 :: x2 :: x3 :: x4 :: y :: r) H R := h
theorem i_v6 {x0 x1 x2 x3 x4 x5 : Option V} {r : L2.St} (h : Q v H) : tVar 6 (x0 :: x1 :: x2 :: x3 :: x4 :: x5 :: some v :: r) H Q := ⟨v, rfl, h⟩
theorem i_n6 {x0 x1 x2 x3 x4 x5 : Option V} {y : Option V} {r : L2.St} {R : L2.St → Hp → Prop} (h : R (x0 :: x1 :: x2 :: x3 :: x4 :: x5 :: some v :: r) H) : gName 6 v (x0 :: x1 :: x2 :: x3 :: x4 :: x5 :: y :: r) H R := h
theorem i_v7 {x0 x1 x2 x3 x4 x5 x6 : Option V} {r : L2.St} (h : Q v H) : tVar 7 (x0 :: x1 :: x2 :: x3 :: x4 :: x5 :: x6 :: some v :: r) H Q := ⟨v, rfl, h⟩
theorem i_n7 {x0 x1 x2 x3 x4 x5 x6 : Option V} {y : Option V} {r : L2.St} {R : L2.St → Hp → Prop} (h : R (x0 :: x1 :: x2 :: x3 :: x4 :: x5 :: x6 :: some v :: r) H) : gName 7 v (x0 :: x1 :: x2 :: x3 :: x4 :: x5 :: x6 :: y :: r) H R := h
theorem i_v8 {x0 x1 x2 x3 x4 x5 x6 x7 : Option V} {r : L2.St} (h : Q v H) : tVar 8 (x0 :: x1 :: x2 :: x3 :: x4 :: x5 :: x6 :: x7 :: some v :: r) H Q := ⟨v, rfl, h⟩
theorem i_n8 {x0 x1 x2 x3 x4 x5 x6 x7 : Option V} {y : Option V} {r : L2.St} {R : L2.St → Hp → Prop} (h : R (x0 :: x1 :: x2 :: x3 :: x4 :: x5 :: x6 :: x7 :: some v :: r) H) : gName 8 v (x0 :: x1 :: x2 :: x3 :: x4 :: x5 :: x6 :: x7 :: y :: r) H R := h
theorem i_v9 {x0 x1 x2 x3 x4 x5 x6 x7 x8 : Option V} {r : L2.St} (h : Q v H) : tVar 9 (x0 :: x1 :: x2 :: x3 :: x4 :: x5 :: x6 :: x7 :: x8 :: some v :: r) H Q := ⟨v, rfl, h⟩
theorem i_n9 {x0 x1 x2 x3 x4 x5 x6 x7 x8 : Option V} {y : Option V} {r : L2.St} {R : L2.St → Hp → Prop} (h : R (x0 :: x1 :: x2 :: x3 :: x4 :: x5 :: x6 :: x7 :: x8 :: some v :: r) H) : gName 9 v (x0 :: x1 :: x2 :: x3 :: x4 :: x5 :: x6 :: x7 :: x8 :: y :: r) H R := h
theorem i_v10 {x0 x1 x2 x3 x4 x5 x6 x7 x8 x9 : Option V} {r : L2.St} (h : Q v H) : tVar 10 (x0 :: x1 :: x2 :: x3 :: x4 :: x5 :: x6 :: x7 :: x8 :: x9 :: some v :: r) H Q := ⟨v, rfl, h⟩
theorem i_n10 {x0 x1 x2 x3 x4 x5 x6 x7 x8 x9 : Option V} {y : Option V} {r : L2.St} {R : L2.St → Hp → Prop} (h : R (x0 :: x1 :: x2 :: x3 :: x4 :: x5 :: x6 :: x7 :: x8 :: x9 :: some v :: r) H) : gName 10 v (x0 :: x1 :: x2 :: x3 :: x4 :: x5 :: x6 :: x7 :: x8 :: x9 :: y :: r) H R := h
theorem i_v11 {x0 x1 x2 x3 x4 x5 x6 x7 x8 x9 x10 : Option V} {r : L2.St} (h : Q v H) : tVar 11 (x0 :: x1 :: x2 :: x3 :: x4 :: x5 :: x6 :: x7 :: x8 :: x9 :: x10 :: some v :: r) H Q := ⟨v, rfl, h⟩
theorem i_n11 {x0 x1 x2 x3 x4 x5 x6 x7 x8 x9 x10 : Option V} {y : Option V} {r : L2.St} {R : L2.St → Hp → Prop} (h : R (x0 :: x1 :: x2 :: x3 :: x4 :: x5 :: x6 :: x7 :: x8 :: x9 :: x10 :: some v :: r) H) : gName 11 v (x0 :: x1 :: x2 :: x3 :: x4 :: x5 :: x6 :: x7 :: x8 :: x9 :: x10 :: y :: r) H R := h
theorem i_v12 {x0 x1 x2 x3 x4 x5 x6 x7 x8 x9 x10 x11 : Option V} {r : L2.St} (h : Q v H) : tVar 12 (x0 :: x1 :: x2 :: x3 :: x4 :: x5 :: x6 :: x7 :: x8 :: x9 :: x10 :: x11 :: some v :: r) H Q := ⟨v, rfl, h⟩
theorem i_n12 {x0 x1 x2 x3 x4 x5 x6 x7 x8 x9 x10 x11 : Option V} {y : Option V} {r : L2.St} {R : L2.St → Hp → Prop} (h : R (x0 :: x1 :: x2 :: x3 :: x4 :: x5 :: x6 :: x7 :: x8 :: x9 :: x10 :: x11 :: some v :: r) H) : gName 12 v (x0 :: x1 :: x2 :: x3 :: x4 :: x5 :: x6 :: x7 :: x8 :: x9 :: x10 :: x11 :: y :: r) H R := h
theorem i_v13 {x0 x1 x2 x3 x4 x5 x6 x7 x8 x9 x10 x11 x12 : Option V} {r : L2.St} (h : Q v H) : tVar 13 (x0 :: x1 :: x2 :: x3 :: x4 :: x5 :: x6 :: x7 :: x8 :: x9 :: x10 :: x11 :: x12 :: some v :: r) H Q := ⟨v, rfl, h⟩
theorem i_n13 {x0 x1 x2 x3 x4 x5 x6 x7 x8 x9 x10 x11 x12 : Option V} {y : Option V} {r : L2.St} {R : L2.St → Hp → Prop} (h : R (x0 :: x1 :: x2 :: x3 :: x4 :: x5 :: x6 :: x7 :: x8 :: x9 :: x10 :: x11 :: x12 :: some v :: r) H) : gName 13 v (x0 :: x1 :: x2 :: x3 :: x4 :: x5 :: x6 :: x7 :: x8 :: x9 :: x10 :: x11 :: x12 :: y :: r) H R := h
theorem i_v14 {x0 x1 x2 x3 x4 x5 x6 x7 x8 x9 x10 x11 x12 x13 : Option V} {r : L2.St} (h : Q v H) : tVar 14 (x0 :: x1 :: x2 :: x3 :: x4 :: x5 :: x6 :: x7 :: x8 :: x9 :: x10 :: x11 :: x12 :: x13 :: some v :: r) H Q := ⟨v, rfl, h⟩
theorem i_n14 {x0 x1 x2 x3 x4 x5 x6 x7 x8 x9 x10 x11 x12 x13 : Option V} {y : Option V} {r : L2.St} {R : L2.St → Hp → Prop} (h : R (x0 :: x1 :: x2 :: x3 :: x4 :: x5 :: x6 :: x7 :: x8 :: x9 :: x10 :: x11 :: x12 :: x13 :: some v :: r) H) : gName 14 v (x0 :: x1 :: x2 :: x3 :: x4 :: x5 :: x6 :: x7 :: x8 :: x9 :: x10 :: x11 :: x12 :: x13 :: y :: r) H R := h
theorem i_v15 {x0 x1 x2 x3 x4 x5 x6 x7 x8 x9 x10 x11 x12 x13 x14 : Option V} {r : L2.St} (h : Q v H) : tVar 15 (x0 :: x1 :: x2 :: x3 :: x4 :: x5 :: x6 :: x7 :: x8 :: x9 :: x10 :: x11 :: x12 :: x13 :: x14 :: some v :: r) H Q := ⟨v, rfl, h⟩
theorem i_n15 {x0 x1 x2 x3 x4 x5 x6 x7 x8 x9 x10 x11 x12 x13 x14 : Option V} {y : Option V} {r : L2.St} {R : L2.St → Hp → Prop} (h : R (x0 :: x1 :: x2 :: x3 :: x4 :: x5 :: x6 :: x7 :: x8 :: x9 :: x10 :: x11 :: x12 :: x13 :: x14 :: some v :: r) H) : gName 15 v (x0 :: x1 :: x2 :: x3 :: x4 :: x5 :: x6 :: x7 :: x8 :: x9 :: x10 :: x11 :: x12 :: x13 :: x14 :: y :: r) H R := h
theorem i_v16 {x0 x1 x2 x3 x4 x5 x6 x7 x8 x9 x10 x11 x12 x13 x14 x15 : Option V} {r : L2.St} (h : Q v H) : tVar 16 (x0 :: x1 :: x2 :: x3 :: x4 :: x5 :: x6 :: x7 :: x8 :: x9 :: x10 :: x11 :: x12 :: x13 :: x14 :: x15 :: some v :: r) H Q := ⟨v, rfl, h⟩
theorem i_n16 {x0 x1 x2 x3 x4 x5 x6 x7 x8 x9 x10 x11 x12 x13 x14 x15 : Option V} {y : Option V} {r : L2.St} {R : L2.St → Hp → Prop} (h : R (x0 :: x1 :: x2 :: x3 :: x4 :: x5 :: x6 :: x7 :: x8 :: x9 :: x10 :: x11 :: x12 :: x13 :: x14 :: x15 :: some v :: r) H) : gName 16 v (x0 :: x1 :: x2 :: x3 :: x4 :: x5 :: x6 :: x7 :: x8 :: x9 :: x10 :: x11 :: x12 :: x13 :: x14 :: x15 :: y :: r) H R := h
theorem i_v17 {x0 x1 x2 x3 x4 x5 x6 x7 x8 x9 x10 x11 x12 x13 x14 x15 x16 : Option V} {r : L2.St} (h : Q v H) : tVar 17 (x0 :: x1 :: x2 :: x3 :: x4 :: x5 :: x6 :: x7 :: x8 :: x9 :: x10 :: x11 :: x12 :: x13 :: x14 :: x15 :: x16 :: some v :: r) H Q := ⟨v, rfl, h⟩
theorem i_n17 {x0 x1 x2 x3 x4 x5 x6 x7 x8 x9 x10 x11 x12 x13 x14 x15 x16 : Option V} {y : Option V} {r : L2.St} {R : L2.St → Hp → Prop} (h : R (x0 :: x1 :: x2 :: x3 :: x4 :: x5 :: x6 :: x7 :: x8 :: x9 :: x10 :: x11 :: x12 :: x13 :: x14 :: x15 :: x16 :: some v :: r) H) : gName 17 v (x0 :: x1 :: x2 :: x3 :: x4 :: x5 :: x6 :: x7 :: x8 :: x9 :: x10 :: x11 :: x12 :: x13 :: x14 :: x15 :: x16 :: y :: r) H R := h
theorem i_v18 {x0 x1 x2 x3 x4 x5 x6 x7 x8 x9 x10 x11 x12 x13 x14 x15 x16 x17 : Option V} {r : L2.St} (h : Q v H) : tVar 18 (x0 :: x1 :: x2 :: x3 :: x4 :: x5 :: x6 :: x7 :: x8 :: x9 :: x10 :: x11 :: x12 :: x13 :: x14 :: x15 :: x16 :: x17 :: some v :: r) H Q := ⟨v, rfl, h⟩
theorem i_n18 {x0 x1 x2 x3 x4 x5 x6 x7 x8 x9 x10 x11 x12 x13 x14 x15 x16 x17 : Option V} {y : Option V} {r : L2.St} {R : L2.St → Hp → Prop} (h : R (x0 :: x1 :: x2 :: x3 :: x4 :: x5 :: x6 :: x7 :: x8 :: x9 :: x10 :: x11 :: x12 :: x13 :: x14 :: x15 :: x16 :: x17 :: some v :: r) H) : gName 18 v (x0 :: x1 :: x2 :: x3 :: x4 :: x5 :: x6 :: x7 :: x8 :: x9 :: x10 :: x11 :: x12 :: x13 :: x14 :: x15 :: x16 :: x17 :: y :: r) H R := h
theorem i_v19 {x0 x1 x2 x3 x4 x5 x6 x7 x8 x9 x10 x11 x12 x13 x14 x15 x16 x17 x18 : Option V} {r : L2.St} (h : Q v H) : tVar 19 (x0 :: x1 :: x2 :: x3 :: x4 :: x5 :: x6 :: x7 :: x8 :: x9 :: x10 :: x11 :: x12 :: x13 :: x14 :: x15 :: x16 :: x17 :: x18 :: some v :: r) H Q := ⟨v, rfl, h⟩
theorem i_n19 {x0 x1 x2 x3 x4 x5 x6 x7 x8 x9 x10 x11 x12 x13 x14 x15 x16 x17 x18 : Option V} {y : Option V} {r : L2.St} {R : L2.St → Hp → Prop} (h : R (x0 :: x1 :: x2 :: x3 :: x4 :: x5 :: x6 :: x7 :: x8 :: x9 :: x10 :: x11 :: x12 :: x13 :: x14 :: x15 :: x16 :: x17 :: x18 :: some v :: r) H) : gName 19 v (x0 :: x1 :: x2 :: x3 :: x4 :: x5 :: x6 :: x7 :: x8 :: x9 :: x10 :: x11 :: x12 :: x13 :: x14 :: x15 :: x16 :: x17 :: x18 :: y :: r) H R := h
theorem i_v20 {x0 x1 x2 x3 x4 x5 x6 x7 x8 x9 x10 x11 x12 x13 x14 x15 x16 x17 x18 x19 : Option V} {r : L2.St} (h : Q v H) : tVar 20 (x0 :: x1 :: x2 :: x3 :: x4 :: x5 :: x6 :: x7 :: x8 :: x9 :: x10 :: x11 :: x12 :: x13 :: x14 :: x15 :: x16 :: x17 :: x18 :: x19 :: some v :: r) H Q := ⟨v, rfl, h⟩
theorem i_n20 {x0 x1 x2 x3 x4 x5 x6 x7 x8 x9 x10 x11 x12 x13 x14 x15 x16 x17 x18 x19 : Option V} {y : Option V} {r : L2.St} {R : L2.St → Hp → Prop} (h : R (x0 :: x1 :: x2 :: x3 :: x4 :: x5 :: x6 :: x7 :: x8 :: x9 :: x10 :: x11 :: x12 :: x13 :: x14 :: x15 :: x16 :: x17 :: x18 :: x19 :: some v :: r) H) : gName 20 v (x0 :: x1 :: x2 :: x3 :: x4 :: x5 :: x6 :: x7 :: x8 :: x9 :: x10 :: x11 :: x12 :: x13 :: x14 :: x15 :: x16 :: x17 :: x18 :: x19 :: y :: r) H R := h
theorem i_v21 {x0 x1 x2 x3 x4 x5 x6 x7 x8 x9 x10 x11 x12 x13 x14 x15 x16 x17 x18 x19 x20 : Option V} {r : L2.St} (h : Q v H) : tVar 21 (x0 :: x1 :: x2 :: x3 :: x4 :: x5 :: x6 :: x7 :: x8 :: x9 :: x10 :: x11 :: x12 :: x13 :: x14 :: x15 :: x16 :: x17 :: x18 :: x19 :: x20 :: some v :: r) H Q := ⟨v, rfl, h⟩
theorem i_n21 {x0 x1 x2 x3 x4 x5 x6 x7 x8 x9 x10 x11 x12 x13 x14 x15 x16 x17 x18 x19 x20 : Option V} {y : Option V} {r : L2.St} {R : L2.St → Hp → Prop} (h : R (x0 :: x1 :: x2 :: x3 :: x4 :: x5 :: x6 :: x7 :: x8 :: x9 :: x10 :: x11 :: x12 :: x13 :: x14 :: x15 :: x16 :: x17 :: x18 :: x19 :: x20 :: some v :: r) H) : gName 21 v (x0 :: x1 :: x2 :: x3 :: x4 :: x5 :: x6 :: x7 :: x8 :: x9 :: x10 :: x11 :: x12 :: x13 :: x14 :: x15 :: x16 :: x17 :: x18 :: x19 :: x20 :: y :: r) H R := h
theorem i_v22 {x0 x1 x2 x3 x4 x5 x6 x7 x8 x9 x10 x11 x12 x13 x14 x15 x16 x17 x18 x19 x20 x21 : Option V} {r : L2.St} (h : Q v H) : tVar 22 (x0 :: x1 :: x2 :: x3 :: x4 :: x5 :: x6 :: x7 :: x8 :: x9 :: x10 :: x11 :: x12 :: x13 :: x14 :: x15 :: x16 :: x17 :: x18 :: x19 :: x20 :: x21 :: some v :: r) H Q := ⟨v, rfl, h⟩
theorem i_n22 {x0 x1 x2 x3 x4 x5 x6 x7 x8 x9 x10 x11 x12 x13 x14 x15 x16 x17 x18 x19 x20 x21 : Option V} {y : Option V} {r : L2.St} {R : L2.St → Hp → Prop} (h : R (x0 :: x1 :: x2 :: x3 :: x4 :: x5 :: x6 :: x7 :: x8 :: x9 :: x10 :: x11 :: x12 :: x13 :: x14 :: x15 :: x16 :: x17 :: x18 :: x19 :: x20 :: x21 :: some v :: r) H) : gName 22 v (x0 :: x1 :: x2 :: x3 :: x4 :: x5 :: x6 :: x7 :: x8 :: x9 :: x10 :: x11 :: x12 :: x13 :: x14 :: x15 :: x16 :: x17 :: x18 :: x19 :: x20 :: x21 :: y :: r) H R := h
theorem i_v23 {x0 x1 x2 x3 x4 x5 x6 x7 x8 x9 x10 x11 x12 x13 x14 x15 x16 x17 x18 x19 x20 x21 x22 : Option V} {r : L2.St} (h : Q v H) : tVar 23 (x0 :: x1 :: x2 :: x3 :: x4 :: x5 :: x6 :: x7 :: x8 :: x9 :: x10 :: x11 :: x12 :: x13 :: x14 :: x15 :: x16 :: x17 :: x18 :: x19 :: x20 :: x21 :: x22 :: some v :: r) H Q := ⟨v, rfl, h⟩
theorem i_n23 {x0 x1 x2 x3 x4 x5 x6 x7 x8 x9 x10 x11 x12 x13 x14 x15 x16 x17 x18 x19 x20 x21 x22 : Option V} {y : Option V} {r : L2.St} {R : L2.St → Hp → Prop} (h : R (x0 :: x1 :: x2 :: x3 :: x4 :: x5 :: x6 :: x7 :: x8 :: x9 :: x10 :: x11 :: x12 :: x13 :: x14 :: x15 :: x16 :: x17 :: x18 :: x19 :: x20 :: x21 :: x22 :: some v :: r) H) : gName 23 v (x0 :: x1 :: x2 :: x3 :: x4 :: x5 :: x6 :: x7 :: x8 :: x9 :: x10 :: x11 :: x12 :: x13 :: x14 :: x15 :: x16 :: x17 :: x18 :: x19 :: x20 :: x21 :: x22 :: y :: r) H R := h
theorem i_v24 {x0 x1 x2 x3 x4 x5 x6 x7 x8 x9 x10 x11 x12 x13 x14 x15 x16 x17 x18 x19 x20 x21 x22 x23 : Option V} {r : L2.St} (h : Q v H) : tVar 24 (x0 :: x1 :: x2 :: x3 :: x4 :: x5 :: x6 :: x7 :: x8 :: x9 :: x10 :: x11 :: x12 :: x13 :: x14 :: x15 :: x16 :: x17 :: x18 :: x19 :: x20 :: x21 :: x22 :: x23 :: some v :: r) H Q := ⟨v, rfl, h⟩
theorem i_n24 {x0 x1 x2 x3 x4 x5 x6 x7 x8 x9 x10 x11 x12 x13 x14 x15 x16 x17 x18 x19 x20 x21 x22 x23 : Option V} {y : Option V} {r : L2.St} {R : L2.St → Hp → Prop} (h : R (x0 :: x1 :: x2 :: x3 :: x4 :: x5 :: x6 :: x7 :: x8 :: x9 :: x10 :: x11 :: x12 :: x13 :: x14 :: x15 :: x16 :: x17 :: x18 :: x19 :: x20 :: x21 :: x22 :: x23 :: some v :: r) H) : gName 24 v (x0 :: x1 :: x2 :: x3 :: x4 :: x5 :: x6 :: x7 :: x8 :: x9 :: x10 :: x11 :: x12 :: x13 :: x14 :: x15 :: x16 :: x17 :: x18 :: x19 :: x20 :: x21 :: x22 :: x23 :: y :: r) H R := h
theorem i_v25 {x0 x1 x2 x3 x4 x5 x6 x7 x8 x9 x10 x11 x12 x13 x14 x15 x16 x17 x18 x19 x20 x21 x22 x23 x24 : Option V} {r : L2.St} (h : Q v H) : tVar 25 (x0 :: x1 :: x2 :: x3 :: x4 :: x5 :: x6 :: x7 :: x8 :: x9 :: x10 :: x11 :: x12 :: x13 :: x14 :: x15 :: x16 :: x17 :: x18 :: x19 :: x20 :: x21 :: x22 :: x23 :: x24 :: some v :: r) H Q := ⟨v, rfl, h⟩
theorem i_n25 {x0 x1 x2 x3 x4 x5 x6 x7 x8 x9 x10 x11 x12 x13 x14 x15 x16 x17 x18 x19 x20 x21 x22 x23 x24 : Option V} {y : Option V} {r : L2.St} {R : L2.St → Hp → Prop} (h : R (x0 :: x1 :: x2 :: x3 :: x4 :: x5 :: x6 :: x7 :: x8 :: x9 :: x10 :: x11 :: x12 :: x13 :: x14 :: x15 :: x16 :: x17 :: x18 :: x19 :: x20 :: x21 :: x22 :: x23 :: x24 :: some v :: r) H) : gName 25 v (x0 :: x1 :: x2 :: x3 :: x4 :: x5 :: x6 :: x7 :: x8 :: x9 :: x10 :: x11 :: x12 :: x13 :: x14 :: x15 :: x16 :: x17 :: x18 :: x19 :: x20 :: x21 :: x22 :: x23 :: x24 :: y :: r) H R := h
theorem i_v26 {x0 x1 x2 x3 x4 x5 x6 x7 x8 x9 x10 x11 x12 x13 x14 x15 x16 x17 x18 x19 x20 x21 x22 x23 x24 x25 : Option V} {r : L2.St} (h : Q v H) : tVar 26 (x0 :: x1 :: x2 :: x3 :: x4 :: x5 :: x6 :: x7 :: x8 :: x9 :: x10 :: x11 :: x12 :: x13 :: x14 :: x15 :: x16 :: x17 :: x18 :: x19 :: x20 :: x21 :: x22 :: x23 :: x24 :: x25 :: some v :: r) H Q := ⟨v, rfl, h⟩
theorem i_n26 {x0 x1 x2 x3 x4 x5 x6 x7 x8 x9 x10 x11 x12 x13 x14 x15 x16 x17 x18 x19 x20 x21 x22 x23 x24 x25 : Option V} {y : Option V} {r : L2.St} {R : L2.St → Hp → Prop} (h : R (x0 :: x1 :: x2 :: x3 :: x4 :: x5 :: x6 :: x7 :: x8 :: x9 :: x10 :: x11 :: x12 :: x13 :: x14 :: x15 :: x16 :: x17 :: x18 :: x19 :: x20 :: x21 :: x22 :: x23 :: x24 :: x25 :: some v :: r) H) : gName 26 v (x0 :: x1 :: x2 :: x3 :: x4 :: x5 :: x6 :: x7 :: x8 :: x9 :: x10 :: x11 :: x12 :: x13 :: x14 :: x15 :: x16 :: x17 :: x18 :: x19 :: x20 :: x21 :: x22 :: x23 :: x24 :: x25 :: y :: r) H R := h
theorem i_v27 {x0 x1 x2 x3 x4 x5 x6 x7 x8 x9 x10 x11 x12 x13 x14 x15 x16 x17 x18 x19 x20 x21 x22 x23 x24 x25 x26 : Option V} {r : L2.St} (h : Q v H) : tVar 27 (x0 :: x1 :: x2 :: x3 :: x4 :: x5 :: x6 :: x7 :: x8 :: x9 :: x10 :: x11 :: x12 :: x13 :: x14 :: x15 :: x16 :: x17 :: x18 :: x19 :: x20 :: x21 :: x22 :: x23 :: x24 :: x25 :: x26 :: some v :: r) H Q := ⟨v, rfl, h⟩
theorem i_n27 {x0 x1 x2 x3 x4 x5 x6 x7 x8 x9 x10 x11 x12 x13 x14 x15 x16 x17 x18 x19 x20 x21 x22 x23 x24 x25 x26 : Option V} {y : Option V} {r : L2.St} {R : L2.St → Hp → Prop} (h : R (x0 :: x1 :: x2 :: x3 :: x4 :: x5 :: x6 :: x7 :: x8 :: x9 :: x10 :: x11 :: x12 :: x13 :: x14 :: x15 :: x16 :: x17 :: x18 :: x19 :: x20 :: x21 :: x22 :: x23 :: x24 :: x25 :: x26 :: some v :: r) H) : gName 27 v (x0 :: x1 :: x2 :: x3 :: x4 :: x5 :: x6 :: x7 :: x8 :: x9 :: x10 :: x11 :: x12 :: x13 :: x14 :: x15 :: x16 :: x17 :: x18 :: x19 :: x20 :: x21 :: x22 :: x23 :: x24 :: x25 :: x26 :: y :: r) H R := h
theorem i_v28 {x0 x1 x2 x3 x4 x5 x6 x7 x8 x9 x10 x11 x12 x13 x14 x15 x16 x17 x18 x19 x20 x21 x22 x23 x24 x25 x26 x27 : Option V} {r : L2.St} (h : Q v H) : tVar 28 (x0 :: x1 :: x2 :: x3 :: x4 :: x5 :: x6 :: x7 :: x8 :: x9 :: x10 :: x11 :: x12 :: x13 :: x14 :: x15 :: x16 :: x17 :: x18 :: x19 :: x20 :: x21 :: x22 :: x23 :: x24 :: x25 :: x26 :: x27 :: some v :: r) H Q := ⟨v, rfl, h⟩
theorem i_n28 {x0 x1 x2 x3 x4 x5 x6 x7 x8 x9 x10 x11 x12 x13 x14 x15 x16 x17 x18 x19 x20 x21 x22 x23 x24 x25 x26 x27 : Option V} {y : Option V} {r : L2.St} {R : L2.St → Hp → Prop} (h : R (x0 :: x1 :: x2 :: x3 :: x4 :: x5 :: x6 :: x7 :: x8 :: x9 :: x10 :: x11 :: x12 :: x13 :: x14 :: x15 :: x16 :: x17 :: x18 :: x19 :: x20 :: x21 :: x22 :: x23 :: x24 :: x25 :: x26 :: x27 :: some v :: r) H) : gName 28 v (x0 :: x1 :: x2 :: x3 :: x4 :: x5 :: x6 :: x7 :: x8 :: x9 :: x10 :: x11 :: x12 :: x13 :: x14 :: x15 :: x16 :: x17 :: x18 :: x19 :: x20 :: x21 :: x22 :: x23 :: x24 :: x25 :: x26 :: x27 :: y :: r) H R := h
theorem i_v29 {x0 x1 x2 x3 x4 x5 x6 x7 x8 x9 x10 x11 x12 x13 x14 x15 x16 x17 x18 x19 x20 x21 x22 x23 x24 x25 x26 x27 x28 : Option V} {r : L2.St} (h : Q v H) : tVar 29 (x0 :: x1 :: x2 :: x3 :: x4 :: x5 :: x6 :: x7 :: x8 :: x9 :: x10 :: x11 :: x12 :: x13 :: x14 :: x15 :: x16 :: x17 :: x18 :: x19 :: x20 :: x21 :: x22 :: x23 :: x24 :: x25 :: x26 :: x27 :: x28 :: some v :: r) H Q := ⟨v, rfl, h⟩
theorem i_n29 {x0 x1 x2 x3 x4 x5 x6 x7 x8 x9 x10 x11 x12 x13 x14 x15 x16 x17 x18 x19 x20 x21 x22 x23 x24 x25 x26 x27 x28 : Option V} {y : Option V} {r : L2.St} {R : L2.St → Hp → Prop} (h : R (x0 :: x1 :: x2 :: x3 :: x4 :: x5 :: x6 :: x7 :: x8 :: x9 :: x10 :: x11 :: x12 :: x13 :: x14 :: x15 :: x16 :: x17 :: x18 :: x19 :: x20 :: x21 :: x22 :: x23 :: x24 :: x25 :: x26 :: x27 :: x28 :: some v :: r) H) : gName 29 v (x0 :: x1 :: x2 :: x3 :: x4 :: x5 :: x6 :: x7 :: x8 :: x9 :: x10 :: x11 :: x12 :: x13 :: x14 :: x15 :: x16 :: x17 :: x18 :: x19 :: x20 :: x21 :: x22 :: x23 :: x24 :: x25 :: x26 :: x27 :: x28 :: y :: r) H R := h

end
theorem i_start {N : List Str} {vs : List V} {D : Ends} {H : Hp} {t : TS} (σ : L2.St) (e : start N vs = σ) (h : t D σ H) : t D (start N vs) H := by
  rw [e]
  exact h

/-! ### heaps but for one address -/
def Hid (b : Addr) (H : Hp) : Hp := fun a => if a = b then none else H a
theorem of_hid {b a : Addr} {H : Hp} {o : HO} (h : Hid b H a = some o) : H a = some o := by
  unfold Hid at h
  split at h
  · cases h
  · exact h
theorem hid_ne {b a : Addr} {H : Hp} {o : HO} (h : Hid b H a = some o) : a ≠ b := fun z => by
  unfold Hid at h
  rw [if_pos z] at h
  cases h
theorem to_hid {b a : Addr} {H : Hp} {o : HO} (h : H a = some o) (n : a ≠ b) : Hid b H a = some o := by
  unfold Hid
  rw [if_neg n]
  exact h
theorem hid_same {b : Addr} {H H' : Hp} (s : Same H H') : Same (Hid b H) (Hid b H') := fun a o h => to_hid (s a o (of_hid h)) (hid_ne h)
theorem hid_upd {b : Addr} {H : Hp} {o : HO} : Same (Hid b H) (Hid b (upd H b o)) := fun a u h => to_hid (by rw [upd_ne (hid_ne h)]; exact of_hid h) (hid_ne h)
theorem upd_new {H : Hp} {p : Addr} {o : HO} (h : H p = none) : Same H (upd H p o) := fun a u e => by rw [upd_ne (ne_of_none e h)]; exact e
theorem ne_none {H : Hp} {a p : Addr} {o : HO} (h : H p = none) (e : H a = some o) : p ≠ a := fun z => by rw [z, e] at h; cases h
/-- a new object -/
theorem i_new {H : Hp} {o : HO} {R : Addr → Hp → Prop} (h : ∀ p H1, H p = none → H1 p = some o → Same H H1 → R p H1) : ∀ p, H p = none → R p (upd H p o) := fun p hp => h p _ hp upd_same (upd_new hp)

/-! ### data by their addresses -/
theorem seqT_same {K : PySem.W.Frag} {H H' : Hp} {a : Addr} {xs : List V} (e : Same H H') (h : SqT K H a xs) : SqT K H' a xs := by
  rcases h with (h | ⟨o, h⟩) | h
  · exact .inl (.inl (e _ _ h))
  · exact .inl (.inr ⟨o, e _ _ h⟩)
  · exact .inr h
theorem sk_same {b : Bool} {K : PySem.W.Frag} {H H' : Hp} {a : Addr} {xs : List V} (e : Same H H') (h : Sk b K H a xs) : Sk b K H' a xs := by
  cases b with
  | true => exact e.seq h
  | false => exact seqT_same e h
mutual
theorem dp_same {K : PySem.W.Frag} {H H' : Hp} (e : Same H H') : ∀ (d : PyData) (v : V), Dp K H v d → Dp K H' v d
  | .none, _, h => by cases h; exact .non
  | .bool b, _, h => by cases h; exact .bl b
  | .int i, _, h => by cases h; exact .int i
  | .str x, _, h => by cases h; exact .str x
  | .list ds, _, h => by
    cases h with
    | lst h1 h2 => exact .lst (e.seq h1) (dpAll_same e ds _ h2)
  | .tuple ds, _, h => by
    cases h with
    | tup h1 h2 => exact .tup (seqT_same e h1) (dpAll_same e ds _ h2)
  | .dict _, _, h => by cases h
theorem dpAll_same {K : PySem.W.Frag} {H H' : Hp} (e : Same H H') : ∀ (ds : List PyData) (vs : List V), DpAll K H vs ds → DpAll K H' vs ds
  | [], _, h => by cases h; exact .nil
  | d :: ds, _, h => by
    cases h with
    | cons h1 h2 => exact .cons (dp_same e d _ h1) (dpAll_same e ds _ h2)
end
theorem dpAll_len {K : PySem.W.Frag} {H : Hp} : ∀ {vs : List V} {ds : List PyData}, DpAll K H vs ds → vs.length = ds.length
  | _, _, .nil => rfl
  | _, _, .cons _ h => congrArg (· + 1) (dpAll_len h)
theorem dpAll_get {K : PySem.W.Frag} {H : Hp} : ∀ {vs : List V} {ds : List PyData} {i : Nat} {v : V}, DpAll K H vs ds → vs[i]? = some v → ∃ d, ds[i]? = some d ∧ Dp K H v d
  | _, _, i, v, .nil, e => by simp at e
  | _, _, 0, v, .cons (d := d) h _, e => ⟨d, by simp, by simp at e; rw [← e]; exact h⟩
  | _, _, i + 1, v, .cons _ h, e => by
    obtain ⟨d, h1, h2⟩ := dpAll_get (i := i) (v := v) h (by simpa using e)
    exact ⟨d, by simpa using h1, h2⟩
theorem dpAll_ints {K : PySem.W.Frag} {H : Hp} (ns : List Int) : DpAll K H (ns.map V.int) (ns.map PyData.int) := by
  induction ns with
  | nil => exact .nil
  | cons n ns ih => exact .cons (.int n) ih
theorem dpAll_append {K : PySem.W.Frag} {H : Hp} : ∀ {vs ws : List V} {ds es : List PyData}, DpAll K H vs ds → DpAll K H ws es → DpAll K H (vs ++ ws) (ds ++ es)
  | _, _, _, _, .nil, h => h
  | _, _, _, _, .cons a b, h => .cons a (dpAll_append b h)
/-- the type's name of data -/
def tyD : PyData → String
  | .none => "NoneType"
  | .bool _ => "bool"
  | .int _ => "int"
  | .str _ => "str"
  | .list _ => "list"
  | .tuple _ => "tuple"
  | .dict _ => "dict"
theorem sqL_ty {K : PySem.W.Frag} {H : Hp} {a : Addr} {xs : List V} (h : SqL K H a xs) : TyX K H (.ref a) (.type "list") := by
  rcases h with (h | ⟨o, h⟩) | ⟨o, its, n, h, hc, _⟩
  · exact .base (.lst h)
  · exact .base (.frz h)
  · exact .kList h hc
theorem sqT_ty {K : PySem.W.Frag} {H : Hp} {a : Addr} {xs : List V} (h : SqT K H a xs) : TyX K H (.ref a) (.type "tuple") := by
  rcases h with (h | ⟨o, h⟩) | ⟨o, its, n, h, hc, _⟩
  · exact .base (.tup h)
  · exact .fTuple h
  · exact .kTuple h hc
theorem dp_ty {K : PySem.W.Frag} {H : Hp} {v : V} {d : PyData} (h : Dp K H v d) : TyX K H v (.type (tyD d)) := by
  cases h with
  | non => exact .base .non
  | bl b => exact .base (.bl b)
  | int i => exact .base (.int i)
  | str x => exact .base (.str x)
  | lst h1 _ => exact sqL_ty h1
  | tup h1 _ => exact sqT_ty h1
/-- data, or an empty dict: its type -/
theorem rp_ty {K : PySem.W.Frag} {H : Hp} {v : V} {d : PyData} (h : Rp K H v d) : TyX K H v (.type (tyD d)) := by
  rcases h with ⟨h, _⟩ | ⟨a, rfl, h, rfl⟩
  · exact dp_ty h
  · exact .base (.dK h)
theorem rp_same {K : PySem.W.Frag} {H H' : Hp} (e : Same H H') {v : V} {d : PyData} (h : Rp K H v d) : Rp K H' v d := by
  rcases h with ⟨h, n⟩ | ⟨a, rfl, h, rfl⟩
  · exact .inl ⟨dp_same e d v h, n⟩
  · exact .inr ⟨a, rfl, e _ _ h, rfl⟩
/-- isinstance(d, T) -/
def isaD (d : PyData) (T : String) : Bool := tyD d == T || (tyD d == "bool" && T == "int")
theorem isa_of {d : PyData} {T : String} (hT : T = "int" ∨ T = "bool" ∨ T = "str" ∨ T = "list" ∨ T = "tuple" ∨ T = "dict") : kitB (tyD d) T = some (isaD d T) := by
  have key : ∀ a ∈ ["NoneType", "bool", "int", "str", "list", "tuple", "dict"], ∀ T ∈ ["int", "bool", "str", "list", "tuple", "dict"], kitB a T = some (a == T || (a == "bool" && T == "int")) := by decide +kernel
  refine key (tyD d) ?_ T ?_
  · cases d <;> simp [tyD]
  · simpa using hT
section
variable {H : Hp} {Q : VK} {K : PySem.W.Frag} {v : V} {d : PyData} {i : Int}
theorem i_isi {T : String} (h : TyX K H v (.type (tyD d))) (hT : T = "int" ∨ T = "bool" ∨ T = "str" ∨ T = "list" ∨ T = "tuple" ∨ T = "dict") (q : Q (.bl (isaD d T)) H) : rIsi K [v, .ty T] H Q :=
  ⟨_, _, _, _, _, rfl, .ty _, h, kit_ty (isa_of hT), q⟩
theorem i_isi2 {T U : String} {tp : Addr} (ht : H tp = some (.tup [.ty T, .ty U])) (h : TyX K H v (.type (tyD d))) (hT : T = "int" ∨ T = "bool" ∨ T = "str" ∨ T = "list" ∨ T = "tuple" ∨ T = "dict") (hU : U = "int" ∨ U = "bool" ∨ U = "str" ∨ U = "list" ∨ U = "tuple" ∨ U = "dict")
    (q : Q (.bl (isaD d T || isaD d U)) H) : rIsiT K [v, .ref tp] H Q := by
  refine ⟨_, _, _, _, _, _, rfl, ht, .cons (.ty _) (.cons (.ty _) .nil), h, kitAny_cons (kit_ty (isa_of hT)) (fun hb => ?_) (fun hb => ?_), q⟩
  · rw [hb, Bool.false_or]
    refine kitAny_cons (kit_ty (isa_of hU)) (fun hc => ?_) fun hc => hc
    rw [hc]
    rfl
  · rw [hb, Bool.true_or]
theorem i_len {n : Nat} (h : LenV K v H n) (q : Q (.int n) H) : ∃ x n, [v] = [x] ∧ LenV K x H n ∧ Q (.int (n : Nat)) H := ⟨_, _, rfl, h, q⟩
theorem i_int (q : Q (.int i) H) : (∃ j, [V.int i] = [.int j] ∧ Q (.int j) H) ∨ ∃ k, [V.int i] = [.bl k] ∧ Q (.int (if k then 1 else 0)) H := .inl ⟨_, rfl, q⟩
theorem i_list {b : Bool} {a : Addr} {xs : List V} (h : Sk b K H a xs) (q : ∀ l, H l = none → Q (.ref l) (upd H l (.lst xs))) : ∃ p ys, [V.ref a] = [.ref p] ∧ (SqL K H p ys ∨ SqT K H p ys) ∧ ∀ l, H l = none → Q (.ref l) (upd H l (.lst ys)) := by
  cases b with
  | true => exact ⟨_, _, rfl, .inl h, q⟩
  | false => exact ⟨_, _, rfl, .inr h, q⟩
theorem i_tuple {a : Addr} {xs : List V} (h : SqL K H a xs) (q : ∀ l, H l = none → Q (.ref l) (upd H l (.tup xs))) : ∃ p ys, [V.ref a] = [.ref p] ∧ ((SqL K H p ys ∧ ∀ l, H l = none → Q (.ref l) (upd H l (.tup ys))) ∨ (SqT K H p ys ∧ Q (.ref p) H)) := ⟨_, _, rfl, .inl ⟨h, q⟩⟩
theorem i_ixS {b : Bool} {a : Addr} {xs : List V} (h1 : Sk b K H a xs) (h2 : atI xs i = some v) (h : Q v H) : rIx K (.ref a) (.int i) H Q := by
  cases b with
  | true => exact i_ixL h1 h2 h
  | false => exact i_ixT h1 h2 h
theorem i_repr {d : PyData} (h : Rp K H v d) (h1 : d.showable = true) (h2 : d.depth ≤ 60) (h3 : d.shown.length ≤ sizeLine) (q : Q (.str d.shown) H) : rRepr K [v] H Q := ⟨_, _, rfl, h, h1, h2, h3, q⟩
end
theorem len_sk {b : Bool} {K : PySem.W.Frag} {H : Hp} {a : Addr} {xs : List V} (h : Sk b K H a xs) : LenV K (.ref a) H xs.length := by
  cases b with
  | true => exact .inl ⟨xs, h, rfl⟩
  | false => exact .inr ⟨xs, h, rfl⟩
end VE

set_option Elab.async false
set_option linter.all false
set_option maxRecDepth 100000
set_option maxHeartbeats 4000000
/-! Part F: the rules with the written part as a letter of its own. -/
namespace VF
open PySem PySem.Spec PyProof.Rows L2 VI VC VG VD VE
def rLenC (K : PySem.W.Frag) : List V → Hp → VK → Prop := fun xs H Q => ∃ x n, xs = [x] ∧ LenV K x H n ∧ Q (.int (n : Nat)) H
def rListC (K : PySem.W.Frag) : List V → Hp → VK → Prop := fun xs H Q => ∃ p ys, xs = [.ref p] ∧ (SqL K H p ys ∨ SqT K H p ys) ∧ ∀ l, H l = none → Q (.ref l) (upd H l (.lst ys))
def rTupleC (K : PySem.W.Frag) : List V → Hp → VK → Prop := fun xs H Q => ∃ p ys, xs = [.ref p] ∧ ((SqL K H p ys ∧ ∀ l, H l = none → Q (.ref l) (upd H l (.tup ys))) ∨ (SqT K H p ys ∧ Q (.ref p) H))
section
variable {X : Cx} {K : PySem.W.Frag}
theorem k_add (h : X.K = K) : OpR X (binaryOp .Add) (rAddA K) := h ▸ op_addA
theorem k_eq (h : X.K = K) (hu : X.A.units + 64 < cLine) : OpR X (compareOp .Eq) (rEqA K) := h ▸ op_eqA hu
theorem k_ne (h : X.K = K) (hu : X.A.units + 64 < cLine) : OpR X (compareOp .NotEq) (rNeA K) := h ▸ op_neA hu
theorem k_ix (h : X.K = K) : IxR X (rIx K) := h ▸ ix_seq
theorem k_len (h : X.K = K) : CallR X (.builtin "len") (rLenC K) := by
  subst h
  exact call_len
theorem k_list (h : X.K = K) : CallR X (.type "list") (rListC K) := by
  subst h
  exact call_list_of
theorem k_tuple (h : X.K = K) : CallR X (.type "tuple") (rTupleC K) := by
  subst h
  exact call_tuple_of
theorem k_isi (h : X.K = K) : CallR X (.builtin "isinstance") (rIsi K) := h ▸ call_isi
theorem k_isiT (h : X.K = K) : CallR X (.builtin "isinstance") (rIsiT K) := h ▸ call_isiT
theorem k_repr (h : X.K = K) (hgd : X.A.guards = some []) (hu : X.A.units + 64 < cLine) : CallR X (.builtin "repr") (rRepr K) := h ▸ call_reprD hgd hu
theorem k_sl (h : X.K = K) {e : Expr} {te : TE} {lo hi : Option Expr} {tl th : TO} {p2 pos : Pos} (he : PE X e te) (hl : PO X lo tl) (hu : PO X hi th) : PE X (.Subscript e (.Slice lo hi none p2) pos) (tSl (rSlQ K) te tl th) := h ▸ pe_slA he hl hu
theorem k_seq (h : X.K = K) {tg l : Expr} {tl : TE} (hl : PE X l tl) : PI X tg l (iSeq K tl) := h ▸ pi_seq hl
theorem k_en (h : X.K = K) {e : Expr} {ta : TA} {p pos tpos : Pos} {elts : List Expr} {kk : Nat} (hg : Gl X "enumerate") (hm : X.mg "enumerate" = none) (ha : PA X [e] ta) (hs : starEach [e] X.env = [(false, eval e X.env)] := by rfl) :
    PI X (.Tuple elts kk tpos) (.Call (.Name "enumerate" p) [e] [] pos) (iEn K ta) := h ▸ pi_en hg hm ha hs
theorem k_rv (h : X.K = K) {tg : Expr} {e : Expr} {ta : TA} {p pos : Pos} (hg : Gl X "reversed") (hm : X.mg "reversed" = none) (ha : PA X [e] ta) (hs : starEach [e] X.env = [(false, eval e X.env)] := by rfl) : PI X tg (.Call (.Name "reversed" p) [e] [] pos) (VR.iRv K ta) := h ▸ VR.pi_rv hg hm ha hs
theorem k_gtup (h : X.K = K) {es : List Expr} {k : Nat} {pos : Pos} {t : TGs} {n : Nat} (hc : X.calm = true) (hh : PGs X es t) (hn : (assignEach es X.env).length = n := by rfl) (hst : (assignEach es X.env).findIdx? (·.1) = none := by rfl) : PG X (.Tuple es k pos) (gTup K n t) := h ▸ pg_tup hc hh hn hst
theorem k_star (h : X.K = K) {e : Expr} {es : List Expr} {te : TE} {t : TA} {p : Pos} (he : PE X e te) (hr : PA X es t) (hs : starEach (.Starred e p :: es) X.env = (true, eval e X.env) :: starEach es X.env := by rfl) : PA X (.Starred e p :: es) (StX.tStar K te t) := h ▸ StX.pa_star he hr hs
end

/-! ### a def, an exception's class, as they stand behind the top -/
def DefAt (K : PySem.W.Frag) (mg : Str → Option Value) (x : Str) (st : Stmt) : Prop := ∃ (f : Addr) (fd : FuncData), mg x = some (.ref f) ∧ Fun K x x st f fd
theorem defAt {K : PySem.W.Frag} {h : Heap} {mg : Str → Option Value} {x : Str} {st : Stmt} {f : Addr} {oc : Value} {od an : Option Addr} {osl : Array (Option Value)} {kV doc pm cdv ct : Value} (X : K.In h) (G : h.Ns mainGlobals mg) (a : PySem.W.nsIn K mainGlobals x = some (some (.ref f)))
    (l : K.lookup f = some ⟨oc, od, .func (PySem.W.fnOf x x (defArgs st) (defBody st) (defScope st) .none kV doc pm an cdv ct), osl⟩) (c : PySem.W.codeIn K cdv x = true) (k : PySem.W.keepIn K (.ref f) = true) : DefAt K mg x st :=
  ⟨f, _, PySem.W.mg_of X G a, fun_mk (st := st) l c k⟩
/-- what is stored in an exception of the class x with these fields, the last one first -/
def fsOf (x : Str) (flds : List Str) (vs : List V) : List (Str × V) := (flds.zip vs).reverse ++ [(("code" : Str), V.str x)]
structure ExcC (P : Program) (K : PySem.W.Frag) (mg : Str → Option Value) (x : Str) (flds : List Str) (C : Addr) : Prop where
  is : ∃ (fI : Addr) (B newId initId : String) (bmB : List Value) (qual : Str) (st : Stmt) (sts : List Stmt) (fd : FuncData), VX.RaiseX P K mg x C fI B newId initId bmB qual st sts fd flds.length (fsOf x flds)
  gC : mg x = some (.ref C)
  xf : XfC K C
  no : ∀ f ∈ flds, PySem.W.findIn K (.ref C) f = some none
section
variable {X : Cx} {C : Addr}
def tRaiseE (C : Addr) (x : Str) (flds : List Str) (W : WX) (ta : TA) : TS := VX.tRaiseX C flds.length (fsOf x flds) W ta
theorem ps_raiseE {x : Str} {flds : List Str} {e : Expr} {es : List Expr} {ta : TA} {W : WX} {p pos pos2 : Pos} {k : Nat} (T : ExcC X.prog X.K X.mg x flds C) (hc : X.calm = true) (hr : Room k X.A) (tk : Takes X W) (ha : PA X (e :: es) ta) (hn : flds.length ≤ 1000 := by decide)
    (hg : Gl X x := by rfl) (hdb : (x == ("__debug__" : Str)) = false := by decide) (he : starEach (e :: es) X.env = (false, eval e X.env) :: starEach es X.env := by rfl) (hpl : (backTo pos (starEach es X.env)).any (·.1) = false := by rfl) :
    PS X (.Raise (some (.Call (.Name x p) (e :: es) [] pos)) none pos2) (tRaiseE C x flds W ta) := by
  obtain ⟨fI, B, newId, initId, bmB, qual, st, sts, fd, R⟩ := T.is
  exact VX.ps_raiseX R hc hr tk ha hn hg hdb he hpl
theorem i_raise {x : Str} {flds : List Str} {W : WX} {tl : TA} {D : Ends} {σ : L2.St} {H : Hp} (h : tl σ H fun vs H1 => vs.length = flds.length ∧ ∀ d, H1 d = none → W (.ref C) (some d) σ (upd H1 d (.xd (fsOf x flds vs)))) : tRaiseE C x flds W tl D σ H := h
end
/-- what is wanted of an exception of the class C, its one field's value v -/
def Thrown (C : Addr) (x f : Str) (v : V) (E : XK) (H : Hp) : Prop := ∀ d H', Same H H' → H' d = some (.xd [(f, v), (("code" : Str), V.str x)]) → E (.ref C) (some d) H'
theorem thrown_1 {C : Addr} {x f : Str} {v : V} {E : XK} {H H1 : Hp} (h : Thrown C x f v E H) (s : Same H H1) : ([v] : List V).length = ([f] : List Str).length ∧ ∀ d, H1 d = none → E (.ref C) (some d) (upd H1 d (.xd (fsOf x [f] [v]))) :=
  ⟨rfl, fun d hd => h d _ (s.trans (upd_new hd)) upd_same⟩
theorem Thrown.mono {C : Addr} {x f : Str} {v : V} {E : XK} {H H1 : Hp} (h : Thrown C x f v E H) (s : Same H H1) : Thrown C x f v E H1 := fun d H' s' e => h d H' (s.trans s') e
end VF

set_option Elab.async false
set_option linter.all false
set_option maxRecDepth 100000
set_option maxHeartbeats 4000000
/-! Part H: the last lemmas a step. -/
namespace VH
open PySem PySem.Spec PyProof.Rows L2 VI VC VG VD VE VF
section
variable {σ : L2.St} {H : Hp} {Q : VK} {D : Ends} {K : PySem.W.Frag} {x y v : V} {i j : Int} {ta tb tc te : TE} {t u : TS} {tl : TA} {g : TG}
theorem i_nx {f b c : L2.St → Hp → Prop} {r : VK} (h : f σ H) : Ends.nx (Ends.mk f r b c) σ H := h
theorem i_rt {f b c : L2.St → Hp → Prop} {r : VK} (h : r v H) : Ends.rt (Ends.mk f r b c) v H := h
theorem i_bk {f b c : L2.St → Hp → Prop} {r : VK} (h : b σ H) : Ends.bk (Ends.mk f r b c) σ H := h
theorem i_ct {f b c : L2.St → Hp → Prop} {r : VK} (h : c σ H) : Ends.ct (Ends.mk f r b c) σ H := h
theorem i_for {wi : TI} {tb : TS} (h : wi σ H fun J H1 => ∃ W : Nat → Nat → L2.St → Hp → Prop, (∃ m, W 0 m σ H1) ∧ ∀ i m σ H, W i m σ H →
  (J.stop i H ∧ D.nx σ H) ∨ (J.go i H ∧ ∃ N : L2.St → Hp → Prop, (∀ σ' H', N σ' H' → ∃ m', m' < m ∧ W (i + 1) m' σ' H') ∧ ∀ x H', J.yld i H x H' → g x σ H' fun σ2 H2 => tb { D with nx := N, ct := N, bk := D.nx } σ2 H2)) : tFor wi g tb D σ H := h
theorem i_lc {wi : TI} {tt : TT} {vs : List Nat} (h : wi σ H fun J H1 => ∀ D, H1 D = none → ∃ W : Nat → Nat → Hp → Prop, (∃ m, W 0 m (upd H1 D (.lst []))) ∧ ∀ i m H, W i m H →
  (J.stop i H ∧ Q (.ref D) H) ∨ (J.go i H ∧ ∃ Nx : Hp → Prop, (∀ H', Nx H' → ∃ m', m' < m ∧ W (i + 1) m' H') ∧ ∀ x H', J.yld i H x H' → g x (wipe σ vs) H' fun σ2 H2 => wipe σ2 vs = wipe σ vs ∧ tt σ2 H2 fun b H3 =>
    if b = true then te σ2 H3 fun y H4 => ∃ acc, H4 D = some (.lst acc) ∧ acc.length < sizeLine ∧ Nx (upd H4 D (.lst (acc ++ [y]))) else Nx H3)) : tLc wi g tt te vs σ H Q := h
theorem i_rg1 {R : It → Hp → Prop} (h : tl σ H fun vs H1 => ∃ j : Int, vs = [.int j] ∧ -(2 ^ 62) ≤ j ∧ j < 2 ^ 62 ∧ R (ItG j.toNat (fun _ => True) (yRng 0 1)) H1) : iRg1 tl σ H R := h
theorem i_rg2 {R : It → Hp → Prop} (h : tl σ H fun vs H1 => ∃ i j : Int, vs = [.int i, .int j] ∧ (-(2 ^ 62) ≤ i ∧ i < 2 ^ 62 ∧ -(2 ^ 62) ≤ j ∧ j < 2 ^ 62) ∧ R (ItG (j - i).toNat (fun _ => True) (yRng i 1)) H1) : iRg2 tl σ H R := h
theorem i_rg3 {R : It → Hp → Prop} (h : tl σ H fun vs H1 => ∃ (i j c : Int) (n : Nat), vs = [.int i, .int j, .int c] ∧ RgC i j c n ∧ R (ItG n (fun _ => True) (yRng i c)) H1) : iRg3 tl σ H R := h
theorem i_sq {R : It → Hp → Prop} (h : te σ H fun x H1 => ∃ (b : Bool) (a : Addr) (xs : List V), x = .ref a ∧ Sk b K H1 a xs ∧ R (ItG xs.length (fun H => Sk b K H a xs) (yIt xs)) H1) : iSeq K te σ H R := h
theorem i_en {R : It → Hp → Prop} (h : tl σ H fun vs H1 => ∃ (b : Bool) (a : Addr) (xs : List V), vs = [.ref a] ∧ Sk b K H1 a xs ∧ R (ItG xs.length (fun H => Sk b K H a xs) (yEnum xs)) H1) : iEn K tl σ H R := h
theorem i_rv {R : It → Hp → Prop} (h : tl σ H fun vs H1 => ∃ (b : Bool) (a : Addr) (xs : List V), vs = [.ref a] ∧ xs.length ≤ sizeLine ∧ Sk b K H1 a xs ∧ R (ItG xs.length (fun H => Sk b K H a xs) (yRev xs)) H1) : VR.iRv K tl σ H R := h
theorem i_gtup {a : Addr} {xs : List V} {n : Nat} {ts : TGs} {R : L2.St → Hp → Prop} (h1 : SqT K H a xs) (h2 : xs.length = n) (h : ts xs σ H R) : gTup K n ts (.ref a) σ H R := ⟨a, xs, rfl, h1, h2, h⟩
theorem i_gcons {xs : List V} {ts : TGs} {R : L2.St → Hp → Prop} (h : g x σ H fun σ' H' => ts xs σ' H' R) : gCons g ts (x :: xs) σ H R := ⟨_, _, rfl, h⟩
theorem i_gnil {R : L2.St → Hp → Prop} (h : R σ H) : gNil [] σ H R := ⟨rfl, h⟩
theorem i_gsub {to ti : TE} {ts : TSet} {R : L2.St → Hp → Prop} (h : to σ H fun o H1 => ti σ H1 fun i H2 => ts o i v H2 fun H3 => R σ H3) : gSub to ti ts v σ H R := h
theorem i_setL {a : Addr} {xs : List V} {k : Nat} {R : Hp → Prop} (h1 : H a = some (.lst xs)) (h2 : ixN xs.length i = some k) (h : R (upd H a (.lst (xs.set k v)))) : rSetL (.ref a) (.int i) v H R := ⟨_, _, _, _, rfl, rfl, h1, h2, h⟩
theorem i_par {n m : Nat} (h : tl σ H fun vs H1 => ∃ v w, vs = [v, w] ∧ D.nx ((σ.set n (some v)).set m (some w)) H1) : tPar n m tl D σ H := h
theorem i_par3 {n m l : Nat} (h : tl σ H fun vs H1 => ∃ u v w, vs = [u, v, w] ∧ D.nx (((σ.set n (some u)).set m (some v)).set l (some w)) H1) : tPar3 n m l tl D σ H := h
theorem i_two {R : V → V → Prop} (h : R x y) : ∃ v w, [x, y] = [v, w] ∧ R v w := ⟨_, _, rfl, h⟩
theorem i_three {z : V} {R : V → V → V → Prop} (h : R x y z) : ∃ u v w, [x, y, z] = [u, v, w] ∧ R u v w := ⟨_, _, _, rfl, h⟩
theorem i_slice {r : V → Option Int → Option Int → Hp → VK → Prop} {tl th : TO} (h : te σ H fun x H1 => tl σ H1 fun l H2 => th σ H2 fun u H3 => r x l u H3 Q) : tSl r te tl th σ H Q := h
theorem i_nopart {R : Option Int → Hp → Prop} (h : R none H) : tNoPart σ H R := h
def IpOk (R : Option Int → Hp → Prop) (x : V) (H : Hp) : Prop := ∃ i, x = .int i ∧ R (some i) H
theorem i_part {R : Option Int → Hp → Prop} (h : te σ H fun x H1 => IpOk R x H1) : tPart te σ H R := h
theorem i_ip {R : Option Int → Hp → Prop} (h : R (some i) H) : IpOk R (.int i) H := ⟨_, rfl, h⟩
theorem i_slL {a : Addr} {xs : List V} {lo hi : Option Int} (h1 : SqL K H a xs) (h : ∀ p, H p = none → Q (.ref p) (upd H p (.lst (cutV xs lo hi)))) : rSlQ K (.ref a) lo hi H Q := .inl ⟨_, _, rfl, h1, h⟩
theorem i_slA {a : Addr} {xs : List V} {lo hi : Option Int} (h : L2.rSlA K (.ref a) lo hi H Q) : rSlQ K (.ref a) lo hi H Q := .inr (.inl h)
theorem i_yes {R : Bool → Hp → Prop} (h : R true H) : tYes σ H R := h
theorem i_iftrue {A B : Prop} (h : A) : if true = true then A else B := by rw [if_pos rfl]; exact h
theorem i_iffalse {A B : Prop} (h : B) : if false = true then A else B := h
theorem i_dnewK (h : ∀ p H1, H p = none → H1 p = some (.dK []) → Same H H1 → Q (.ref p) H1) : tDNewK σ H Q := fun p hp => h p _ hp upd_same (upd_new hp)
def NewT (xs : List V) (Q : VK) (H : Hp) : Prop := xs.length ≤ sizeLine ∧ ∀ p, H p = none → Q (.ref p) (upd H p (.tup xs))
def NewL (xs : List V) (Q : VK) (H : Hp) : Prop := xs.length ≤ sizeLine ∧ ∀ p, H p = none → Q (.ref p) (upd H p (.lst xs))
theorem i_tupN (h : tl σ H fun xs H1 => NewT xs Q H1) : tTup tl σ H Q := h
theorem i_lstN (h : tl σ H fun xs H1 => NewL xs Q H1) : tLst tl σ H Q := h
theorem i_newT {xs : List V} (h : ∀ p H1, H p = none → H1 p = some (.tup xs) → Same H H1 → Q (.ref p) H1) (z : xs.length ≤ sizeLine := by simp only [List.length_cons, List.length_nil]; decide) : NewT xs Q H := ⟨z, fun p hp => h p _ hp upd_same (upd_new hp)⟩
theorem i_newL {xs : List V} (h : ∀ p H1, H p = none → H1 p = some (.lst xs) → Same H H1 → Q (.ref p) H1) (z : xs.length ≤ sizeLine := by simp only [List.length_cons, List.length_nil]; decide) : NewL xs Q H := ⟨z, fun p hp => h p _ hp upd_same (upd_new hp)⟩
theorem i_lenC {n : Nat} (h : LenV K v H n) (q : Q (.int (n : Nat)) H) : rLenC K [v] H Q := ⟨_, _, rfl, h, q⟩
theorem i_listC {b : Bool} {a : Addr} {xs : List V} (h : Sk b K H a xs) (q : ∀ p H1, H p = none → H1 p = some (.lst xs) → Same H H1 → Q (.ref p) H1) : rListC K [.ref a] H Q := i_list h fun p hp => q p _ hp upd_same (upd_new hp)
theorem i_tupleC {a : Addr} {xs : List V} (h : SqL K H a xs) (q : ∀ p H1, H p = none → H1 p = some (.tup xs) → Same H H1 → Q (.ref p) H1) : rTupleC K [.ref a] H Q := i_tuple h fun p hp => q p _ hp upd_same (upd_new hp)
theorem i_slLN {a : Addr} {xs : List V} {lo hi : Option Int} (h1 : SqL K H a xs) (h : ∀ p H1, H p = none → H1 p = some (.lst (cutV xs lo hi)) → Same H H1 → Q (.ref p) H1) : rSlQ K (.ref a) lo hi H Q := .inl ⟨_, _, rfl, h1, fun p hp => h p _ hp upd_same (upd_new hp)⟩
/-- x[lo:hi], x a list or a tuple -/
theorem i_slS {b : Bool} {a : Addr} {xs : List V} {lo hi : Option Int} (h1 : Sk b K H a xs) (h : ∀ p H1, Same H H1 → Sk b K H1 p (cutV xs lo hi) → Q (.ref p) H1) : rSlQ K (.ref a) lo hi H Q := by
  cases b with
  | true => exact .inl ⟨_, _, rfl, h1, fun p hp => h p _ (upd_new hp) (.inl (.inl upd_same))⟩
  | false =>
    refine .inr (.inl ⟨a, xs, rfl, h1, fun e => ?_, fun _ p hp => h p _ (upd_new hp) (.inl (.inl upd_same))⟩)
    refine h a H (Same.refl _) ?_
    have : cutV xs lo hi = xs := by
      unfold cutV
      rw [e.1, e.2]
      simp
    rw [this]
    exact h1
theorem i_addLN {a b : Addr} {xs ys : List V} (h1 : H a = some (.lst xs)) (h2 : H b = some (.lst ys)) (z : xs.length + ys.length ≤ sizeLine) (h : ∀ p H1, H p = none → H1 p = some (.lst (xs ++ ys)) → Same H H1 → Q (.ref p) H1) : rAddA K (.ref a) (.ref b) H Q := i_addL h1 h2 z fun p hp => h p _ hp upd_same (upd_new hp)
theorem i_ifnt {A B : Prop} (h : A) : if (!false) = true then A else B := h
theorem i_ifnf {A B : Prop} (h : B) : if (!true) = true then A else B := h
theorem i_shl1 {m : Int} (c : 0 ≤ j ∧ j ≤ 1000) (e : 2 ^ j.toNat = m) (h : Q (.int m) H) : rShl (.int 1) (.int j) H Q := ⟨_, _, rfl, rfl, ⟨c.1, by omega, by decide⟩, by
  show Q (.int (1 * 2 ^ j.toNat)) H
  rw [e, Int.one_mul]
  exact h⟩
theorem i_tru {k : Bool} {R : Bool → Prop} (h1 : TruV K x H k) (h : R k) : ∃ k, TruV K x H k ∧ R k := ⟨k, h1, h⟩
theorem i_drt {n : Nat} (e : σ[n]? = some (some v)) (h : Q v H) : tVar n σ H Q := ⟨v, e, h⟩
end
/-! ### promises by their arguments -/
def S1 (f : V → Hp → VK → XK → Prop) : Sp := fun vs H Q E => ∃ a, vs = [a] ∧ f a H Q E
def S2 (f : V → V → Hp → VK → XK → Prop) : Sp := fun vs H Q E => ∃ a b, vs = [a, b] ∧ f a b H Q E
def S3 (f : V → V → V → Hp → VK → XK → Prop) : Sp := fun vs H Q E => ∃ a b c, vs = [a, b, c] ∧ f a b c H Q E
def S4 (f : V → V → V → V → Hp → VK → XK → Prop) : Sp := fun vs H Q E => ∃ a b c d, vs = [a, b, c, d] ∧ f a b c d H Q E
def S5 (f : V → V → V → V → V → Hp → VK → XK → Prop) : Sp := fun vs H Q E => ∃ a b c d e, vs = [a, b, c, d, e] ∧ f a b c d e H Q E
section
variable {a b c d e : V} {H : Hp} {Q : VK} {E : XK}
theorem i_S1 {f : V → Hp → VK → XK → Prop} (h : f a H Q E) : S1 f [a] H Q E := ⟨_, rfl, h⟩
theorem i_S2 {f : V → V → Hp → VK → XK → Prop} (h : f a b H Q E) : S2 f [a, b] H Q E := ⟨_, _, rfl, h⟩
theorem i_S3 {f : V → V → V → Hp → VK → XK → Prop} (h : f a b c H Q E) : S3 f [a, b, c] H Q E := ⟨_, _, _, rfl, h⟩
theorem i_S4 {f : V → V → V → V → Hp → VK → XK → Prop} (h : f a b c d H Q E) : S4 f [a, b, c, d] H Q E := ⟨_, _, _, _, rfl, h⟩
theorem i_S5 {f : V → V → V → V → V → Hp → VK → XK → Prop} (h : f a b c d e H Q E) : S5 f [a, b, c, d, e] H Q E := ⟨_, _, _, _, _, rfl, h⟩
/-- ++ of the arguments by place and those by name -/
theorem i_kS {sp : Sp} {vs zs us : List V} {n : Nat} (h1 : zs.length = n) (h2 : vs ++ zs = us) (h : sp us H Q E) : zs.length = n ∧ sp (vs ++ zs) H Q E := ⟨h1, h2 ▸ h⟩
end
end VH

set_option Elab.async false
set_option linter.all false
set_option maxRecDepth 100000
set_option maxHeartbeats 4000000
/-! Part L: comprehensions that make a new list of values known in front; slices; what data says. -/
namespace VL
open PySem PySem.Spec PyProof.Rows L2 VI VC VG VD VE VF VH
theorem sz {n : Nat} (h : n ≤ 1000000) : n ≤ sizeLine := by
  unfold sizeLine
  omega
theorem upd_at {H H' : Hp} {D : Addr} {o : HO} (s : Same H H') (h : H D = none) : Same H (upd H' D o) := fun a u e => by
  rw [upd_ne (by rintro rfl; rw [h] at e; cases e)]
  exact s a u e
theorem hid_at {H H' : Hp} {D : Addr} {o : HO} (s : Same (Hid D H) H') : Same (Hid D H) (upd H' D o) := upd_at s (by unfold Hid; rw [if_pos rfl])
theorem same_hid {H H' : Hp} {D : Addr} (s : Same H H') : Same (Hid D H) H' := fun a u e => s a u (of_hid e)
/-- [e for x in it], the items known in front -/
theorem lc_new {n : Nat} {S : Hp → Prop} {Y : Nat → Hp → V → Hp → Prop} {g : TG} {te : TE} {vs : List Nat} {σ : L2.St} {H : Hp} {Q : VK} (ys : List V) (σ' : L2.St) (hw : wipe σ vs = σ') (hn : ys.length = n) (hz : n ≤ sizeLine) (hS : ∀ H', Same H H' → S H')
    (hs : ∀ i x y H1 H2 (R : VK) (Z : Hp → Prop), i < n → ys[i]? = some y → Same H H1 → Y i H1 x H2 → (∀ H4, Same H1 H4 → R y H4) → g x σ' H2 fun σ2 H3 => wipe σ2 vs = σ' ∧ tYes σ2 H3 fun b H4 => if b = true then te σ2 H4 R else Z H4) (hd : ∀ p H1, H p = none → H1 p = some (.lst ys) → Same H H1 → Q (.ref p) H1) :
    ∀ D, H D = none → ∃ W : Nat → Nat → Hp → Prop, (∃ m, W 0 m (upd H D (.lst []))) ∧ ∀ i m H, W i m H →
      ((ItG n S Y).stop i H ∧ Q (.ref D) H) ∨ ((ItG n S Y).go i H ∧ ∃ Nx : Hp → Prop, (∀ H', Nx H' → ∃ m', m' < m ∧ W (i + 1) m' H') ∧ ∀ x H', (ItG n S Y).yld i H x H' → g x (wipe σ vs) H' fun σ2 H2 => wipe σ2 vs = wipe σ vs ∧ tYes σ2 H2 fun b H3 =>
        if b = true then te σ2 H3 fun y H4 => ∃ acc, H4 D = some (.lst acc) ∧ acc.length < sizeLine ∧ Nx (upd H4 D (.lst (acc ++ [y]))) else Nx H3) := by
  intro D hD
  rw [hw]
  refine ⟨fun i m H' => m = n - i ∧ i ≤ n ∧ Same H H' ∧ H' D = some (.lst (ys.take i)), ⟨n, rfl, Nat.zero_le _, upd_new hD, by rw [List.take_zero]; exact upd_same⟩, ?_⟩
  rintro i m H1 ⟨rfl, hi, s1, e1⟩
  by_cases hlt : i < n
  · refine .inr ⟨⟨hlt, hS _ s1⟩, fun H' => Same H H' ∧ H' D = some (.lst (ys.take (i + 1))), fun H' p' => ⟨n - (i + 1), by omega, rfl, hlt, p'⟩, fun x H' y => ?_⟩
    have hy : ys[i]? = some (ys[i]'(by omega)) := by simp [hn, hlt]
    refine hs i x _ H1 H' _ _ hlt hy s1 y.2 fun H4 s4 => ⟨ys.take i, s4 _ _ e1, by rw [List.length_take]; omega, upd_at (s1.trans s4) hD, ?_⟩
    rw [upd_same, List.take_succ, hy]
    rfl
  · have e : i = n := Nat.le_antisymm hi (Nat.le_of_not_lt hlt)
    subst e
    exact .inl ⟨⟨Nat.le_refl _, hS _ s1⟩, hd D H1 hD (by rw [e1, List.take_of_length_le (by omega)]) s1⟩
def StarOk (K : PySem.W.Frag) (t : TA) (σ : L2.St) (R : List V → Hp → Prop) (x : V) (H1 : Hp) : Prop := ∃ p xs, x = V.ref p ∧ (SqT K H1 p xs ∨ SqL K H1 p xs) ∧ t σ H1 fun ys H2 => R (xs ++ ys) H2
theorem i_starS {K : PySem.W.Frag} {t : TA} {σ : L2.St} {R : List V → Hp → Prop} {b : Bool} {p : Addr} {xs : List V} {H1 : Hp} (h : Sk b K H1 p xs) (q : t σ H1 fun ys H2 => R (xs ++ ys) H2) : StarOk K t σ R (.ref p) H1 := by
  cases b with
  | true => exact ⟨p, xs, rfl, .inr h, q⟩
  | false => exact ⟨p, xs, rfl, .inl h, q⟩
/-- the reading of a comprehension of two fors -/
theorem i_lc2 {wi wi1 : TI} {g g1 : TG} {tt tt1 : TT} {te : TE} {vs vs1 : List Nat} {σ : L2.St} {H : Hp} {Q : VK} (h : wi σ H fun J H1 => ∀ D, H1 D = none → ∃ W : Nat → Nat → Hp → Prop, (∃ m, W 0 m (upd H1 D (.lst []))) ∧ ∀ i m H, W i m H →
  (J.stop i H ∧ Q (.ref D) H) ∨ (J.go i H ∧ ∃ Nx : Hp → Prop, (∀ H', Nx H' → ∃ m', m' < m ∧ W (i + 1) m' H') ∧ ∀ x H', J.yld i H x H' → g x (wipe σ vs) H' fun σ2 H2 => wipe σ2 vs = wipe σ vs ∧ tt σ2 H2 fun b H3 =>
    if b = true then wi1 σ2 H3 fun J1 H4 => ∃ W1 : Nat → Nat → Hp → Prop, (∃ m, W1 0 m H4) ∧ ∀ j k H, W1 j k H →
      (J1.stop j H ∧ Nx H) ∨ (J1.go j H ∧ ∃ Nx1 : Hp → Prop, (∀ H', Nx1 H' → ∃ k', k' < k ∧ W1 (j + 1) k' H') ∧ ∀ x H', J1.yld j H x H' → g1 x (wipe σ2 vs1) H' fun σ3 H5 => wipe σ3 vs1 = wipe σ2 vs1 ∧ tt1 σ3 H5 fun b H6 =>
        if b = true then te σ3 H6 fun y H7 => ∃ acc, H7 D = some (.lst acc) ∧ acc.length < sizeLine ∧ Nx1 (upd H7 D (.lst (acc ++ [y]))) else Nx1 H6)
    else Nx H3)) : tLc2 wi g tt wi1 g1 tt1 te vs vs1 σ H Q := h
/-- the first k rows, one behind the other -/
def joinN (zs : Nat → List V) : Nat → List V
  | 0 => []
  | k + 1 => joinN zs k ++ zs k
/-- [e for x in it for y in f(x)], the rows known in front -/
theorem lc2_new {n : Nat} {S : Hp → Prop} {Y : Nat → Hp → V → Hp → Prop} {wi1 : TI} {g g1 : TG} {te : TE} {vs vs1 : List Nat} {σ : L2.St} {H : Hp} {Q : VK} (zs : Nat → List V) (σ' : L2.St) (hw : wipe σ vs = σ') (hz : ∀ i, i ≤ n → (joinN zs i).length ≤ sizeLine) (hS : ∀ H', Same H H' → S H')
    (hs : ∀ i x H1 H2 D acc (Nx : Hp → Prop) (Z : Hp → Prop), i < n → Same H H1 → H1 D = some (.lst acc) → Y i H1 x H2 →
      (∀ H4 S1 Y1 (G1 : TG) (Te : L2.St → Hp → VK → Prop) (τ : L2.St) (σ2 : L2.St), Same H1 H4 → (∀ H', Same (Hid D H4) H' → S1 H') → τ = wipe σ2 vs1 →
        (∀ j x1 z H5 H6 (R : VK) (Z' : Hp → Prop), (zs i)[j]? = some z → Same (Hid D H4) H5 → Y1 j H5 x1 H6 → (∀ H8, Same H5 H8 → R z H8) → G1 x1 τ H6 fun σ3 H7 => wipe σ3 vs1 = τ ∧ tYes σ3 H7 fun b H8 => if b = true then Te σ3 H8 R else Z' H8) →
        ∃ W1 : Nat → Nat → Hp → Prop, (∃ m, W1 0 m H4) ∧ ∀ j k H, W1 j k H → ((ItG (zs i).length S1 Y1).stop j H ∧ Nx H) ∨ ((ItG (zs i).length S1 Y1).go j H ∧ ∃ Nx1 : Hp → Prop, (∀ H', Nx1 H' → ∃ k', k' < k ∧ W1 (j + 1) k' H') ∧ ∀ x H', (ItG (zs i).length S1 Y1).yld j H x H' → G1 x τ H' fun σ3 H5 => wipe σ3 vs1 = τ ∧ tYes σ3 H5 fun b H6 =>
          if b = true then Te σ3 H6 fun y H7 => ∃ acc, H7 D = some (.lst acc) ∧ acc.length < sizeLine ∧ Nx1 (upd H7 D (.lst (acc ++ [y]))) else Nx1 H6)) →
      g x σ' H2 fun σ2 H3 => wipe σ2 vs = σ' ∧ tYes σ2 H3 fun b H4 => if b = true then wi1 σ2 H4 fun J1 H4 => ∃ W1 : Nat → Nat → Hp → Prop, (∃ m, W1 0 m H4) ∧ ∀ j k H, W1 j k H →
        (J1.stop j H ∧ Nx H) ∨ (J1.go j H ∧ ∃ Nx1 : Hp → Prop, (∀ H', Nx1 H' → ∃ k', k' < k ∧ W1 (j + 1) k' H') ∧ ∀ x H', J1.yld j H x H' → g1 x (wipe σ2 vs1) H' fun σ3 H5 => wipe σ3 vs1 = wipe σ2 vs1 ∧ tYes σ3 H5 fun b H6 =>
          if b = true then te σ3 H6 fun y H7 => ∃ acc, H7 D = some (.lst acc) ∧ acc.length < sizeLine ∧ Nx1 (upd H7 D (.lst (acc ++ [y]))) else Nx1 H6)
      else Z H4)
    (hd : ∀ p H1, H p = none → H1 p = some (.lst (joinN zs n)) → Same H H1 → Q (.ref p) H1) :
    ∀ D, H D = none → ∃ W : Nat → Nat → Hp → Prop, (∃ m, W 0 m (upd H D (.lst []))) ∧ ∀ i m H, W i m H →
  ((ItG n S Y).stop i H ∧ Q (.ref D) H) ∨ ((ItG n S Y).go i H ∧ ∃ Nx : Hp → Prop, (∀ H', Nx H' → ∃ m', m' < m ∧ W (i + 1) m' H') ∧ ∀ x H', (ItG n S Y).yld i H x H' → g x (wipe σ vs) H' fun σ2 H2 => wipe σ2 vs = wipe σ vs ∧ tYes σ2 H2 fun b H3 =>
    if b = true then wi1 σ2 H3 fun J1 H4 => ∃ W1 : Nat → Nat → Hp → Prop, (∃ m, W1 0 m H4) ∧ ∀ j k H, W1 j k H →
      (J1.stop j H ∧ Nx H) ∨ (J1.go j H ∧ ∃ Nx1 : Hp → Prop, (∀ H', Nx1 H' → ∃ k', k' < k ∧ W1 (j + 1) k' H') ∧ ∀ x H', J1.yld j H x H' → g1 x (wipe σ2 vs1) H' fun σ3 H5 => wipe σ3 vs1 = wipe σ2 vs1 ∧ tYes σ3 H5 fun b H6 =>
        if b = true then te σ3 H6 fun y H7 => ∃ acc, H7 D = some (.lst acc) ∧ acc.length < sizeLine ∧ Nx1 (upd H7 D (.lst (acc ++ [y]))) else Nx1 H6)
    else Nx H3) := by
  intro D hD
  rw [hw]
  refine ⟨fun i m H' => m = n - i ∧ i ≤ n ∧ Same H H' ∧ H' D = some (.lst (joinN zs i)), ⟨n, rfl, Nat.zero_le _, upd_new hD, upd_same⟩, ?_⟩
  rintro i m H1 ⟨rfl, hi, s1, e1⟩
  by_cases hlt : i < n
  · refine .inr ⟨⟨hlt, hS _ s1⟩, fun H' => Same H H' ∧ H' D = some (.lst (joinN zs (i + 1))), fun H' p' => ⟨n - (i + 1), by omega, rfl, hlt, p'⟩, fun x H' y => ?_⟩
    refine hs i x H1 H' D _ _ _ hlt s1 e1 y.2 fun H4 S1 Y1 G1 Te τ σ2 s4 hS1 hτ hs1 => ?_
    have hlen := hz (i + 1) hlt
    simp only [joinN, List.length_append] at hlen
    refine ⟨fun j k H' => k = (zs i).length - j ∧ j ≤ (zs i).length ∧ Same (Hid D H4) H' ∧ H' D = some (.lst (joinN zs i ++ (zs i).take j)), ⟨_, rfl, Nat.zero_le _, fun a u e => of_hid e, by rw [List.take_zero, List.append_nil]; exact s4 _ _ e1⟩, ?_⟩
    rintro j k H5 ⟨rfl, hj, s5, e5⟩
    have sH : Same H H5 := fun a u e => s5 a u (to_hid ((s1.trans s4) a u e) (by rintro rfl; rw [hD] at e; cases e))
    by_cases hl2 : j < (zs i).length
    · refine .inr ⟨⟨hl2, hS1 _ s5⟩, fun H' => Same (Hid D H4) H' ∧ H' D = some (.lst (joinN zs i ++ (zs i).take (j + 1))), fun H' p' => ⟨(zs i).length - (j + 1), by omega, rfl, hl2, p'⟩, fun x1 H6 y1 => ?_⟩
      have hy : (zs i)[j]? = some ((zs i)[j]) := by simp [hl2]
      refine hs1 j x1 _ H5 H6 _ _ hy s5 y1.2 fun H8 s8 => ⟨_, s8 _ _ e5, by rw [List.length_append, List.length_take]; omega, hid_at (s5.trans s8), ?_⟩
      rw [upd_same, List.take_succ, hy, ← List.append_assoc]
      rfl
    · have e : j = (zs i).length := Nat.le_antisymm hj (Nat.le_of_not_lt hl2)
      subst e
      refine .inl ⟨⟨Nat.le_refl _, hS1 _ s5⟩, sH, ?_⟩
      rw [e5, List.take_of_length_le (Nat.le_refl _)]
      rfl
  · have e : i = n := Nat.le_antisymm hi (Nat.le_of_not_lt hlt)
    subst e
    exact .inl ⟨⟨Nat.le_refl _, hS _ s1⟩, hd D H1 hD e1 s1⟩
theorem cutV_nat {xs : List V} {a b : Nat} (h : b ≤ xs.length) (hab : a ≤ b) : cutV xs (some (a : Int)) (some (b : Int)) = (xs.drop a).take (b - a) := by
  unfold cutV
  rw [HT.sIx_nat, HT.sIx_nat, Nat.min_eq_left h, Nat.min_eq_left (Nat.le_trans hab h)]
theorem cutV_from {xs : List V} {a : Nat} (h : a ≤ xs.length) : cutV xs (some (a : Int)) none = xs.drop a := by
  unfold cutV
  rw [HT.sIx_nat, HT.sIx_none, Nat.min_eq_left h, List.take_of_length_le (by rw [List.length_drop]; omega)]
theorem cutV_to {xs : List V} {b : Nat} (h : b ≤ xs.length) : cutV xs none (some (b : Int)) = xs.take b := by
  unfold cutV
  rw [HT.sIx_nat, HT.sIx_none, Nat.min_eq_left h, List.drop_zero, Nat.sub_zero]
theorem i_star {K : PySem.W.Frag} {te : TE} {t : TA} {σ : L2.St} {H : Hp} {R : List V → Hp → Prop} (h : te σ H fun x H1 => StarOk K t σ R x H1) : StX.tStar K te t σ H R := h
/-- a cut behind a statement -/
theorem i_seqC {t u : TS} {D : Ends} {σ : L2.St} {H : Hp} (Pv : L2.St → Hp → Prop) (h2 : ∀ σ H, Pv σ H → u D σ H) (h1 : ∀ R : L2.St → Hp → Prop, (∀ σ H, Pv σ H → R σ H) → t (Ends.mk R D.rt D.bk D.ct) σ H) : tSeq t u D σ H := h1 _ h2
theorem i_setB {v : V} {H : Hp} {i : Int} {a : Addr} {xs : List V} {k : Nat} {R : Hp → Prop} (ys : List V) (h1 : H a = some (.lst xs)) (h2 : ixN xs.length i = some k) (e : xs.set k v = ys) (h : ∀ H1, H1 a = some (.lst ys) → Same (Hid a H) H1 → R H1) : rSetL (.ref a) (.int i) v H R :=
  ⟨_, _, _, _, rfl, rfl, h1, h2, h _ (by rw [e]; exact upd_same) fun a1 u1 z => of_hid (hid_upd a1 u1 z)⟩
theorem hid_trans {b : Addr} {H H1 H2 : Hp} (s : Same (Hid b H) H1) (s2 : Same (Hid b H1) H2) : Same (Hid b H) H2 := fun a u e => s2 a u (to_hid (s a u e) (hid_ne e))
theorem hid_then {b : Addr} {H H1 H2 : Hp} (s : Same (Hid b H) H1) (s2 : Same H1 H2) : Same (Hid b H) H2 := fun a u e => s2 a u (s a u e)
theorem then_hid {b : Addr} {H H1 H2 : Hp} (s : Same H H1) (s2 : Same (Hid b H1) H2) : Same (Hid b H) H2 := fun a u e => s2 a u (to_hid (s a u (of_hid e)) (hid_ne e))
theorem hid_refl (b : Addr) (H : Hp) : Same (Hid b H) H := fun a u e => of_hid e
theorem Same.at {H H1 : Hp} {a : Addr} {o : HO} (s : Same H H1) (e : H a = some o) : H1 a = some o := s a o e
theorem hid_get {b : Addr} {H H1 : Hp} {a : Addr} {o : HO} (s : Same (Hid b H) H1) (e : H a = some o) (n : a ≠ b) : H1 a = some o := s a o (to_hid e n)
end VL

set_option Elab.async false
set_option linter.all false
set_option maxRecDepth 100000
set_option maxHeartbeats 4000000
/-! Part M: more lemmas a step; how long data is when it is shown. -/
namespace VM
open PySem PySem.Spec PyProof.Rows L2 VI VC VG VD VE VF VH VL
def rInt1 : List V → Hp → VK → Prop := fun xs H Q => (∃ i, xs = [.int i] ∧ Q (.int i) H) ∨ ∃ k, xs = [.bl k] ∧ Q (.int (if k then 1 else 0)) H
theorem k_int {X : Cx} : CallR X (.type "int") rInt1 := call_int1
theorem i_intC {i : Int} {H : Hp} {Q : VK} (q : Q (.int i) H) : rInt1 [.int i] H Q := .inl ⟨_, rfl, q⟩
/-! ### how long data is when it is shown -/
structure Sm (n k : Nat) (d : PyData) : Prop where
  sh : d.showable = true
  dp : d.depth ≤ k
  wt : d.weight ≤ n
  lv : PyData.leavesShort 41 d = true
  cl : d.canLay0 = true ∨ d = .dict []
  nd : d.hasDict = false ∨ d = .dict []
theorem Sm.mono {n k n' k' : Nat} {d : PyData} (h : Sm n k d) (hn : n ≤ n') (hk : k ≤ k') : Sm n' k' d := ⟨h.sh, Nat.le_trans h.dp hk, Nat.le_trans h.wt hn, h.lv, h.cl, h.nd⟩
theorem Sm.non : Sm 0 0 .none := ⟨rfl, Nat.le_refl _, Nat.le_refl _, rfl, .inl rfl, .inl rfl⟩
theorem Sm.bl (b : Bool) : Sm 0 0 (.bool b) := ⟨rfl, Nat.le_refl _, Nat.le_refl _, rfl, .inl rfl, .inl rfl⟩
theorem Sm.dict : Sm 0 1 (.dict []) := ⟨by decide +kernel, by decide +kernel, by decide +kernel, by decide +kernel, .inr rfl, .inr rfl⟩
theorem Sm.int {i : Int} (h : i.natAbs < 10 ^ 40) : Sm 134 0 (.int i) := by
  have h2 : i.natAbs.log2 < 134 := by
    by_cases z : i.natAbs = 0
    · rw [z]; decide
    · exact (Nat.log2_lt z).mpr (Nat.lt_of_lt_of_le h (by decide))
  refine ⟨?_, Nat.le_refl _, ?_, ?_, .inl rfl, .inl rfl⟩
  · rw [PyData.showable]
    exact decide_eq_true (by omega)
  · rw [PyData.weight]
    split <;> omega
  · rw [PyData.leavesShort, PyData.shown]
    have := int_text_length_le10 (a := i) (k := 40) (by decide) h
    exact decide_eq_true (by rw [PySem.ofString_length]; exact this)
theorem sm_all {n k : Nat} : ∀ {ds : List PyData}, (∀ d ∈ ds, Sm n k d ∧ d.hasDict = false) → PyData.showableAll ds = true ∧ PyData.depthAll ds ≤ k ∧ PyData.weightAll ds ≤ ds.length * (n + 1) ∧ PyData.leavesShortAll 41 ds = true ∧ PyData.canLayAll0 ds = true ∧ PyData.hasDictAll ds = false
  | [], _ => ⟨rfl, Nat.zero_le _, Nat.zero_le _, rfl, rfl, rfl⟩
  | d :: ds, h => by
    obtain ⟨h1, h2, h3, h4, h5, h6⟩ := sm_all (ds := ds) fun d hd => h d (List.mem_cons_of_mem _ hd)
    obtain ⟨g, gd⟩ := h d (List.mem_cons_self ..)
    have gc : d.canLay0 = true := by
      rcases g.cl with e | rfl
      · exact e
      · simp [PyData.hasDict] at gd
    refine ⟨by simp only [PyData.showableAll, g.sh, h1, Bool.and_self], ?_, ?_, by simp only [PyData.leavesShortAll, g.lv, h4, Bool.and_self], by simp only [PyData.canLayAll0, gc, h5, Bool.and_self], by simp only [PyData.hasDictAll, gd, h6, Bool.or_self]⟩
    · have := g.dp
      simp only [PyData.depthAll]
      omega
    · have := g.wt
      simp only [PyData.weightAll, List.length_cons, Nat.succ_mul]
      omega
theorem Sm.list {n k N : Nat} {ds : List PyData} (h : ∀ d ∈ ds, Sm n k d ∧ d.hasDict = false) (hN : ds.length ≤ N) : Sm (N * (n + 1)) (k + 1) (.list ds) := by
  obtain ⟨h1, h2, h3, h4, h5, h6⟩ := sm_all h
  refine ⟨by simp only [PyData.showable, h1], ?_, ?_, by simp only [PyData.leavesShort, h4], .inl (by simp only [PyData.canLay0, h5]), .inl (by simp only [PyData.hasDict, h6])⟩
  · simp only [PyData.depth]; omega
  · simp only [PyData.weight]
    exact Nat.le_trans h3 (Nat.mul_le_mul_right _ hN)
theorem Sm.tup {n k N : Nat} {ds : List PyData} (h : ∀ d ∈ ds, Sm n k d ∧ d.hasDict = false) (hN : ds.length ≤ N) : Sm (N * (n + 1)) (k + 1) (.tuple ds) := by
  obtain ⟨h1, h2, h3, h4, h5, h6⟩ := sm_all h
  refine ⟨by simp only [PyData.showable, h1], ?_, ?_, by simp only [PyData.leavesShort, h4], .inl (by simp only [PyData.canLay0, h5]), .inl (by simp only [PyData.hasDict, h6])⟩
  · simp only [PyData.depth]; omega
  · simp only [PyData.weight]
    exact Nat.le_trans h3 (Nat.mul_le_mul_right _ hN)
/-- data that may be shown -/
structure ShowOk (d : PyData) : Prop where
  sh : d.showable = true
  dp : d.depth ≤ 60
  ln : d.shown.length ≤ sizeLine
theorem Sm.show {n k : Nat} {d : PyData} (h : Sm n k d) (hn : n ≤ 300000) (hk : k ≤ 60) : ShowOk d := by
  refine ⟨h.sh, Nat.le_trans h.dp hk, ?_⟩
  have h2 := PyData.shown_le 41 (by decide) d h.lv
  have h3 := h.wt
  have : (41 + 2) * d.weight ≤ 43 * 300000 := Nat.mul_le_mul (by decide) (by omega)
  unfold sizeLine
  omega
theorem Sm.shaped {n k : Nat} {d : PyData} (h : Sm n k d) (hk : k ≤ 64) (hd : d.hasDict = false) : SeqAt.shaped d = true := by
  have gc : d.canLay0 = true := by
    rcases h.cl with e | rfl
    · exact e
    · simp [PyData.hasDict] at hd
  unfold SeqAt.shaped
  rw [gc, Bool.true_and]
  exact decide_eq_true (Nat.le_trans h.dp hk)
end VM

set_option Elab.async false
set_option linter.all false
set_option maxRecDepth 100000
set_option maxHeartbeats 4000000
/-! k62, part A: the checks. -/
namespace T
open PySem PySem.Spec PyProof.Rows L2 VI VC VG VD VE VF VH
def topS (i : Nat) : Stmt := PySem.Challenge.pw_veiledgates_k62_whole_plain_machines.main.body.getD i (.Pass ⟨0, 0, 0, 0⟩)
abbrev st_any_number : Stmt := topS 6
abbrev st_is_number : Stmt := topS 7
abbrev st_is_bit : Stmt := topS 8
abbrev st_is_row : Stmt := topS 9
abbrev st_check_bits : Stmt := topS 10
abbrev st_bits_of : Stmt := topS 13
abbrev st_words_of : Stmt := topS 14
abbrev st_low_bits : Stmt := topS 15
abbrev st_number_of : Stmt := topS 16
abbrev st_check_each_bit : Stmt := topS 17
abbrev st_check_width : Stmt := topS 19
abbrev st_check_state : Stmt := topS 20
abbrev st_many_bits : Stmt := topS 21
abbrev st_plain_step : Stmt := topS 22
abbrev st_state_bits : Stmt := topS 23
abbrev st_state_of : Stmt := topS 24
abbrev st_law_start : Stmt := topS 26
abbrev st_law_draw : Stmt := topS 27
abbrev st_law_pick : Stmt := topS 28
abbrev st_law_like : Stmt := topS 29
abbrev st_law_word_bits : Stmt := topS 30
abbrev st_law_words_bits : Stmt := topS 31
abbrev st_law_step : Stmt := topS 32
abbrev st_law_state : Stmt := topS 33
abbrev st_law_state_bits : Stmt := topS 34
abbrev st_law_many_bits : Stmt := topS 35
abbrev st_law_told : Stmt := topS 36
abbrev st_law_read : Stmt := topS 37
abbrev st_law_bent : Stmt := topS 38
abbrev st_law_bent_bits : Stmt := topS 39
abbrev st_law : Stmt := topS 40
abbrev st_InvalidNumber_init : Stmt := inClass (topS 2) 0
abbrev st_BadBits_init : Stmt := inClass (topS 3) 0
abbrev st_BadWords_init : Stmt := inClass (topS 4) 0
theorem sc_any_number : FnScope ["value"] ["value"] (defScope st_any_number) := ⟨rfl, rfl, rfl, by decide +kernel, rfl, by decide +kernel, by decide +kernel⟩
theorem sc_is_number : FnScope ["value", "least", "most"] ["value", "least", "most"] (defScope st_is_number) := ⟨rfl, rfl, rfl, by decide +kernel, rfl, by decide +kernel, by decide +kernel⟩
theorem sc_is_bit : FnScope ["value"] ["value"] (defScope st_is_bit) := ⟨rfl, rfl, rfl, by decide +kernel, rfl, by decide +kernel, by decide +kernel⟩
theorem sc_is_row : FnScope ["value", "many"] ["value", "many"] (defScope st_is_row) := ⟨rfl, rfl, rfl, by decide +kernel, rfl, by decide +kernel, by decide +kernel⟩
structure Nb (mg : Str → Option Value) : Prop where
  n_len : mg "len" = none
  n_int : mg "int" = none
  n_str : mg "str" = none
  n_list : mg "list" = none
  n_tuple : mg "tuple" = none
  n_bool : mg "bool" = none
  n_dict : mg "dict" = none
  n_range : mg "range" = none
  n_enumerate : mg "enumerate" = none
  n_reversed : mg "reversed" = none
  n_isinstance : mg "isinstance" = none
  n_repr : mg "repr" = none
set_option hygiene false in
local macro_rules | `(tactic| walk_at "s") => `(tactic| with_reducible first | refine i_seq ?_ | refine i_asg ?_ | refine i_ret ?_ | refine i_drop ?_ | refine i_next ?_ | refine i_nx ?_ | refine i_rt ?_ | refine i_ct ?_ | refine i_bk ?_ | refine i_op ?_ | refine i_un ?_ | refine i_cons ?_ | refine i_nil ?_ | refine i_cb ?_ | refine i_calls ?_ | refine i_c ?_ | refine i_ifs ?_ | refine i_ife ?_ | refine i_test ?_ | refine i_tb ?_ | refine i_bl ?_ | refine i_and ?_ | refine i_or ?_ | refine i_not ?_ | refine i_andv ?_ | refine i_orv ?_ | refine i_notv ?_ | refine i_chain ?_ | refine i_addI ?_ | refine i_sub ?_ | refine i_neg ?_ | refine i_eqI ?_ | refine i_eqS ?_ | refine i_neI ?_ | refine i_neS ?_ | refine i_lt ?_ | refine i_le ?_ | refine i_gt ?_ | refine i_ge ?_ | refine i_isN ?_ | refine i_notN ?_ | refine i_gnil ?_ | refine i_gcons ?_ | refine i_gsub ?_ | refine i_par ?_ | refine i_par3 ?_ | refine i_two ?_ | refine i_three ?_ | refine i_slice ?_ | refine i_nopart ?_ | refine i_part ?_ | refine i_ip ?_ | refine i_yes ?_ | refine i_iftrue ?_ | refine i_ifnt ?_ | refine i_ifnf ?_ | refine i_iffalse ?_ | refine i_S1 ?_ | refine i_S2 ?_ | refine i_S3 ?_ | refine i_S4 ?_ | refine i_S5 ?_ | refine i_intC ?_ | refine i_tupN ?_ | refine i_lstN ?_ | refine i_raise ?_ | refine i_for ?_ | refine i_lc ?_ | refine i_rg1 ?_ | refine i_rg2 ?_ | refine i_rg3 ?_ | refine i_sq ?_ | refine i_en ?_ | refine i_rv ?_ | refine i_callks ?_ | refine i_star ?_ | refine i_lc2 ?_ | walk_at "v")
set_option hygiene false in
local macro_rules | `(tactic| walk_at "v") => `(tactic| with_reducible first | refine i_v0 ?_ | refine i_v1 ?_ | refine i_v2 ?_ | refine i_v3 ?_ | refine i_v4 ?_ | refine i_v5 ?_ | refine i_v6 ?_ | refine i_v7 ?_ | refine i_v8 ?_ | refine i_v9 ?_ | refine i_v10 ?_ | refine i_v11 ?_ | refine i_v12 ?_ | refine i_v13 ?_ | refine i_v14 ?_ | refine i_v15 ?_ | refine i_v16 ?_ | refine i_v17 ?_ | refine i_v18 ?_ | refine i_v19 ?_ | refine i_v20 ?_ | refine i_v21 ?_ | refine i_v22 ?_ | refine i_v23 ?_ | refine i_v24 ?_ | refine i_v25 ?_ | refine i_v26 ?_ | refine i_v27 ?_ | refine i_v28 ?_ | refine i_v29 ?_ | refine i_n0 ?_ | refine i_n1 ?_ | refine i_n2 ?_ | refine i_n3 ?_ | refine i_n4 ?_ | refine i_n5 ?_ | refine i_n6 ?_ | refine i_n7 ?_ | refine i_n8 ?_ | refine i_n9 ?_ | refine i_n10 ?_ | refine i_n11 ?_ | refine i_n12 ?_ | refine i_n13 ?_ | refine i_n14 ?_ | refine i_n15 ?_ | refine i_n16 ?_ | refine i_n17 ?_ | refine i_n18 ?_ | refine i_n19 ?_ | refine i_n20 ?_ | refine i_n21 ?_ | refine i_n22 ?_ | refine i_n23 ?_ | refine i_n24 ?_ | refine i_n25 ?_ | refine i_n26 ?_ | refine i_n27 ?_ | refine i_n28 ?_ | refine i_n29 ?_)
/-! ### plain data -/
def isI : PyData → Bool
  | .int _ => true
  | _ => false
def inI (d : PyData) (lo hi : Int) : Bool := match d with
  | .int i => decide (lo ≤ i) && decide (i ≤ hi)
  | _ => false
def items : PyData → Option (List PyData)
  | .list ds => some ds
  | .tuple ds => some ds
  | _ => none
def isRow (d : PyData) (n : Int) : Bool := match items d with
  | some ds => decide ((ds.length : Int) = n)
  | none => false
def AG (lo hi : Int) (ds : List PyData) : Prop := ∀ (j : Nat) (d : PyData), ds[j]? = some d → inI d lo hi = true
def FB (lo hi : Int) (ds : List PyData) (k : Nat) : Prop := (∃ d, ds[k]? = some d ∧ inI d lo hi = false) ∧ ∀ j < k, ∀ d, ds[j]? = some d → inI d lo hi = true
theorem isI_int {H : Hp} {K : PySem.W.Frag} {x : V} {d : PyData} (h : Rp K H x d) (e : isI d = true) : ∃ i, d = .int i ∧ x = .int i := by
  cases d <;> first | (cases e; done) | skip
  rename_i i
  rcases h with ⟨h, _⟩ | ⟨a, _, _, h⟩
  · cases h
    exact ⟨i, rfl, rfl⟩
  · cases h
theorem isI_int_num {d : PyData} {lo hi : Int} (e : isI d = false) : inI d lo hi = false := by cases d <;> first | rfl | cases e
section
variable {P : Program} {w : World} {K : PySem.W.Frag} {mg : Str → Option Value} {base : Heap} {C_InvalidNumber C_BadBits C_BadWords : Addr}
abbrev sp_any (K : PySem.W.Frag) : Sp := S1 fun x H Q E => ∃ d, Rp K H x d ∧ Q (.bl (isI d)) H
theorem cl_any_number (nb : Nb mg) (D_any_number : DefAt K mg "any_number" st_any_number)   : Cl P w K mg base 3 "any_number" ["value"] (sp_any K) [[]] := by
  obtain ⟨f, fd, hm, F⟩ := D_any_number
  refine cl_of (k := 2) hm F (fun kV doc pm an cdv ct ks hks us ws hl hlw => ?bind) sc_any_number ?len (fun cdv A outer s H vs Q E hr h => ⟨_, (by exact (pss_one (ps_ret (pe_and (pe_callB (k_isi (K := K) rfl) (by rfl) nb.n_isinstance (by decide +kernel) (pa_cons (pv 0) (pa_cons (pe_bltn (v := .ty "int") (by rfl) (nb.n_int) (by decide +kernel) rfl) pa_nil))) (pe_one (pe_not (pe_callB (k_isi (K := K) rfl) (by rfl) nb.n_isinstance (by decide +kernel) (pa_cons (pv 0) (pa_cons (pe_bltn (v := .ty "bool") (by rfl) (nb.n_bool) (by decide +kernel) rfl) pa_nil))))))))), ?_⟩)
  case bind =>
    obtain rfl : ks = ([] : List Str) := by simpa using hks
    · have hl2 : us.length = 1 := by simp only [List.length_append, List.length_cons, List.length_nil] at hl hlw; omega
      match us, hl2, ws, hlw with
      | [_], _, [], _ => rfl
  case len =>
    intro vs H Q E h
    obtain ⟨_, rfl, _⟩ := h
    rfl
  obtain ⟨x0, rfl, h⟩ := h
  refine i_start [some x0] rfl ?_
  obtain ⟨d, hd, q⟩ := h
  repeat walk_at "s"
  refine i_isi (rp_ty hd) (by simp) ?_
  repeat walk_at "s"
  refine i_ifb (fun e => ?_) (fun e => ?_)
  · repeat walk_at "s"
    refine i_isi (rp_ty hd) (by simp) ?_
    repeat walk_at "s"
    cases d <;> first | exact q | cases e
  · repeat walk_at "s"
    cases d <;> first | exact q | cases e
abbrev sp_num (K : PySem.W.Frag) : Sp := S3 fun x a b H Q E => ∃ d lo hi, a = .int lo ∧ b = .int hi ∧ Rp K H x d ∧ Q (.bl (inI d lo hi)) H
theorem cl_is_number (nb : Nb mg) (D_is_number : DefAt K mg "is_number" st_is_number) (C_any_number : Cl P w K mg base 3 "any_number" ["value"] (sp_any K) [[]])  : Cl P w K mg base 6 "is_number" ["value", "least", "most"] (sp_num K) [[]] := by
  obtain ⟨f, fd, hm, F⟩ := D_is_number
  refine cl_of (k := 5) hm F (fun kV doc pm an cdv ct ks hks us ws hl hlw => ?bind) sc_is_number ?len (fun cdv A outer s H vs Q E hr h => ⟨_, (by exact (pss_one (ps_ret (pe_and (pe_cl C_any_number hr (by decide) (fun σ => passAt (takes_of rfl rfl rfl rfl) σ) (pa_cons (pv 0) pa_nil)) (pe_one (pe_chain op_leA op_leA (pv 1) (pv 0) (pv 2))))))), ?_⟩)
  case bind =>
    obtain rfl : ks = ([] : List Str) := by simpa using hks
    · have hl2 : us.length = 3 := by simp only [List.length_append, List.length_cons, List.length_nil] at hl hlw; omega
      match us, hl2, ws, hlw with
      | [_, _, _], _, [], _ => rfl
  case len =>
    intro vs H Q E h
    obtain ⟨_, _, _, rfl, _⟩ := h
    rfl
  obtain ⟨x0, x1, x2, rfl, h⟩ := h
  refine i_start [some x0, some x1, some x2] rfl ?_
  obtain ⟨d, lo, hi, rfl, rfl, hd, q⟩ := h
  repeat walk_at "s"
  refine ⟨d, hd, ?_⟩
  refine ⟨_, rfl, ?_⟩
  refine i_ifb (fun e => ?_) (fun e => ?_)
  · obtain ⟨i, rfl, rfl⟩ := isI_int hd e
    repeat walk_at "s"
    refine i_if (fun e1 => ?_) (fun e1 => ?_)
    · repeat walk_at "s"
      rw [show inI (.int i) lo hi = decide (i ≤ hi) by simp [inI, e1]] at q
      exact q
    · repeat walk_at "s"
      rw [show inI (.int i) lo hi = false by simp [inI, e1]] at q
      exact q
  · repeat walk_at "s"
    rw [isI_int_num e] at q
    exact q
abbrev sp_bit (K : PySem.W.Frag) : Sp := S1 fun x H Q E => ∃ d, Rp K H x d ∧ Q (.bl (inI d 0 1)) H
theorem cl_is_bit (nb : Nb mg) (D_is_bit : DefAt K mg "is_bit" st_is_bit) (C_is_number : Cl P w K mg base 6 "is_number" ["value", "least", "most"] (sp_num K) [[]])  : Cl P w K mg base 9 "is_bit" ["value"] (sp_bit K) [[]] := by
  obtain ⟨f, fd, hm, F⟩ := D_is_bit
  refine cl_of (k := 8) hm F (fun kV doc pm an cdv ct ks hks us ws hl hlw => ?bind) sc_is_bit ?len (fun cdv A outer s H vs Q E hr h => ⟨_, (by exact (pss_one (ps_ret (pe_cl C_is_number hr (by decide) (fun σ => passAt (takes_of rfl rfl rfl rfl) σ) (pa_cons (pv 0) (pa_cons pe_int (pa_cons pe_int pa_nil))))))), ?_⟩)
  case bind =>
    obtain rfl : ks = ([] : List Str) := by simpa using hks
    · have hl2 : us.length = 1 := by simp only [List.length_append, List.length_cons, List.length_nil] at hl hlw; omega
      match us, hl2, ws, hlw with
      | [_], _, [], _ => rfl
  case len =>
    intro vs H Q E h
    obtain ⟨_, rfl, _⟩ := h
    rfl
  obtain ⟨x0, rfl, h⟩ := h
  refine i_start [some x0] rfl ?_
  obtain ⟨d, hd, q⟩ := h
  repeat walk_at "s"
  exact ⟨d, 0, 1, rfl, rfl, hd, q⟩
abbrev sp_row (K : PySem.W.Frag) : Sp := S2 fun x a H Q E => ∃ d n, a = .int n ∧ Rp K H x d ∧ ∀ H', Same H H' → Q (.bl (isRow d n)) H'
theorem cl_is_row (nb : Nb mg) (D_is_row : DefAt K mg "is_row" st_is_row)   : Cl P w K mg base 3 "is_row" ["value", "many"] (sp_row K) [[]] := by
  obtain ⟨f, fd, hm, F⟩ := D_is_row
  refine cl_of (k := 2) hm F (fun kV doc pm an cdv ct ks hks us ws hl hlw => ?bind) sc_is_row ?len (fun cdv A outer s H vs Q E hr h => ⟨_, (by exact (pss_one (ps_ret (pe_and (pe_callB (k_isiT (K := K) rfl) (by rfl) nb.n_isinstance (by decide +kernel) (pa_cons (pv 0) (pa_cons (pe_tup (pa_cons (pe_bltn (v := .ty "list") (by rfl) (nb.n_list) (by decide +kernel) rfl) (pa_cons (pe_bltn (v := .ty "tuple") (by rfl) (nb.n_tuple) (by decide +kernel) rfl) pa_nil))) pa_nil))) (pe_one (pe_cmpR (k_eq (K := K) rfl hr.units) (pe_callB (k_len (K := K) rfl) (by rfl) nb.n_len (by decide +kernel) (pa_cons (pv 0) pa_nil)) (pv 1) (nomark _))))))), ?_⟩)
  case bind =>
    obtain rfl : ks = ([] : List Str) := by simpa using hks
    · have hl2 : us.length = 2 := by simp only [List.length_append, List.length_cons, List.length_nil] at hl hlw; omega
      match us, hl2, ws, hlw with
      | [_, _], _, [], _ => rfl
  case len =>
    intro vs H Q E h
    obtain ⟨_, _, rfl, _⟩ := h
    rfl
  obtain ⟨x0, x1, rfl, h⟩ := h
  refine i_start [some x0, some x1] rfl ?_
  obtain ⟨d, n, rfl, hd, q⟩ := h
  repeat walk_at "s"
  refine i_newT fun p H1 hp e1 s1 => ?_
  repeat walk_at "s"
  refine i_isi2 e1 (rp_ty (rp_same s1 hd)) (by simp) (by simp) ?_
  refine ⟨_, rfl, ?_⟩
  refine i_ifb (fun e => ?_) (fun e => ?_)
  · obtain ⟨ds, b, a, xs, e2, rfl, h1, h2⟩ : ∃ ds b a xs, items d = some ds ∧ x0 = .ref a ∧ Sk b K H1 a xs ∧ DpAll K H1 xs ds := by
      rcases hd with ⟨hd, _⟩ | ⟨a, _, _, rfl⟩
      · have hd1 := dp_same s1 d x0 hd
        cases hd1 with
        | lst h1 h2 => exact ⟨_, true, _, _, rfl, rfl, h1, h2⟩
        | tup h1 h2 => exact ⟨_, false, _, _, rfl, rfl, h1, h2⟩
        | _ => cases e
      · cases e
    repeat walk_at "s"
    refine i_lenC (len_sk h1) ?_
    repeat walk_at "s"
    have := q H1 s1
    rw [show isRow d n = decide (((xs.length : Nat) : Int) = n) by unfold isRow; rw [e2, dpAll_len h2]] at this
    exact this
  · repeat walk_at "s"
    have := q H1 s1
    rw [show isRow d n = false by cases d <;> first | rfl | cases e] at this
    exact this
end
end T

set_option Elab.async false
set_option linter.all false
set_option maxRecDepth 100000
set_option maxHeartbeats 4000000
/-! k62, part B: bits. -/
namespace T
open PySem PySem.Spec PyProof.Rows L2 VI VC VG VD VE VF VH VL
theorem sc_check_bits : FnScope ["value", "many", "at", "item"] ["value", "many"] (defScope st_check_bits) := ⟨rfl, rfl, rfl, by decide +kernel, rfl, by decide +kernel, by decide +kernel⟩
theorem sc_bits_of : FnScope ["words", "width", "at", "word", "bit"] ["words", "width"] (defScope st_bits_of) := ⟨rfl, rfl, rfl, by decide +kernel, rfl, by decide +kernel, by decide +kernel⟩
theorem sc_words_of : FnScope ["bits", "width", "at"] ["bits", "width"] (defScope st_words_of) := ⟨rfl, rfl, rfl, by decide +kernel, rfl, by decide +kernel, by decide +kernel⟩
theorem sc_low_bits : FnScope ["value", "width", "at"] ["value", "width"] (defScope st_low_bits) := ⟨rfl, rfl, rfl, by decide +kernel, rfl, by decide +kernel, by decide +kernel⟩
theorem sc_number_of : FnScope ["bits", "total", "bit"] ["bits"] (defScope st_number_of) := ⟨rfl, rfl, rfl, by decide +kernel, rfl, by decide +kernel, by decide +kernel⟩
theorem sc_check_each_bit : FnScope ["bits", "at", "bit"] ["bits"] (defScope st_check_each_bit) := ⟨rfl, rfl, rfl, by decide +kernel, rfl, by decide +kernel, by decide +kernel⟩
set_option hygiene false in
local macro_rules | `(tactic| walk_at "s") => `(tactic| with_reducible first | refine i_seq ?_ | refine i_asg ?_ | refine i_ret ?_ | refine i_drop ?_ | refine i_next ?_ | refine i_nx ?_ | refine i_rt ?_ | refine i_ct ?_ | refine i_bk ?_ | refine i_op ?_ | refine i_un ?_ | refine i_cons ?_ | refine i_nil ?_ | refine i_cb ?_ | refine i_calls ?_ | refine i_c ?_ | refine i_ifs ?_ | refine i_ife ?_ | refine i_test ?_ | refine i_tb ?_ | refine i_bl ?_ | refine i_and ?_ | refine i_or ?_ | refine i_not ?_ | refine i_andv ?_ | refine i_orv ?_ | refine i_notv ?_ | refine i_chain ?_ | refine i_addI ?_ | refine i_sub ?_ | refine i_neg ?_ | refine i_eqI ?_ | refine i_eqS ?_ | refine i_neI ?_ | refine i_neS ?_ | refine i_lt ?_ | refine i_le ?_ | refine i_gt ?_ | refine i_ge ?_ | refine i_isN ?_ | refine i_notN ?_ | refine i_gnil ?_ | refine i_gcons ?_ | refine i_gsub ?_ | refine i_par ?_ | refine i_par3 ?_ | refine i_two ?_ | refine i_three ?_ | refine i_slice ?_ | refine i_nopart ?_ | refine i_part ?_ | refine i_ip ?_ | refine i_yes ?_ | refine i_iftrue ?_ | refine i_ifnt ?_ | refine i_ifnf ?_ | refine i_iffalse ?_ | refine i_S1 ?_ | refine i_S2 ?_ | refine i_S3 ?_ | refine i_S4 ?_ | refine i_S5 ?_ | refine i_intC ?_ | refine i_tupN ?_ | refine i_lstN ?_ | refine i_raise ?_ | refine i_for ?_ | refine i_lc ?_ | refine i_rg1 ?_ | refine i_rg2 ?_ | refine i_rg3 ?_ | refine i_sq ?_ | refine i_en ?_ | refine i_rv ?_ | refine i_callks ?_ | refine i_star ?_ | refine i_lc2 ?_ | walk_at "v")
set_option hygiene false in
local macro_rules | `(tactic| walk_at "v") => `(tactic| with_reducible first | refine i_v0 ?_ | refine i_v1 ?_ | refine i_v2 ?_ | refine i_v3 ?_ | refine i_v4 ?_ | refine i_v5 ?_ | refine i_v6 ?_ | refine i_v7 ?_ | refine i_v8 ?_ | refine i_v9 ?_ | refine i_v10 ?_ | refine i_v11 ?_ | refine i_v12 ?_ | refine i_v13 ?_ | refine i_v14 ?_ | refine i_v15 ?_ | refine i_v16 ?_ | refine i_v17 ?_ | refine i_v18 ?_ | refine i_v19 ?_ | refine i_v20 ?_ | refine i_v21 ?_ | refine i_v22 ?_ | refine i_v23 ?_ | refine i_v24 ?_ | refine i_v25 ?_ | refine i_v26 ?_ | refine i_v27 ?_ | refine i_v28 ?_ | refine i_v29 ?_ | refine i_n0 ?_ | refine i_n1 ?_ | refine i_n2 ?_ | refine i_n3 ?_ | refine i_n4 ?_ | refine i_n5 ?_ | refine i_n6 ?_ | refine i_n7 ?_ | refine i_n8 ?_ | refine i_n9 ?_ | refine i_n10 ?_ | refine i_n11 ?_ | refine i_n12 ?_ | refine i_n13 ?_ | refine i_n14 ?_ | refine i_n15 ?_ | refine i_n16 ?_ | refine i_n17 ?_ | refine i_n18 ?_ | refine i_n19 ?_ | refine i_n20 ?_ | refine i_n21 ?_ | refine i_n22 ?_ | refine i_n23 ?_ | refine i_n24 ?_ | refine i_n25 ?_ | refine i_n26 ?_ | refine i_n27 ?_ | refine i_n28 ?_ | refine i_n29 ?_)
mutual
theorem dp_noDict {K : PySem.W.Frag} {H : Hp} : ∀ (d : PyData) (v : V), Dp K H v d → d.hasDict = false
  | .none, _, h => by simp [PyData.hasDict]
  | .bool b, _, h => by simp [PyData.hasDict]
  | .int i, _, h => by simp [PyData.hasDict]
  | .str x, _, h => by simp [PyData.hasDict]
  | .list ds, _, h => by
    cases h with
    | lst h1 h2 => simpa [PyData.hasDict] using dpAll_noDict ds _ h2
  | .tuple ds, _, h => by
    cases h with
    | tup h1 h2 => simpa [PyData.hasDict] using dpAll_noDict ds _ h2
  | .dict _, _, h => by cases h
theorem dpAll_noDict {K : PySem.W.Frag} {H : Hp} : ∀ (ds : List PyData) (vs : List V), DpAll K H vs ds → PyData.hasDictAll ds = false
  | [], _, h => by simp [PyData.hasDictAll]
  | d :: ds, _, h => by
    cases h with
    | cons h1 h2 => simp [PyData.hasDictAll, dp_noDict d _ h1, dpAll_noDict ds _ h2]
end
theorem rp_of {K : PySem.W.Frag} {H : Hp} {d : PyData} {v : V} (h : Dp K H v d) : Rp K H v d := .inl ⟨h, dp_noDict d v h⟩
theorem rp_items {K : PySem.W.Frag} {H : Hp} {d : PyData} {v : V} {ds : List PyData} (h : Rp K H v d) (e : items d = some ds) : ∃ b a xs, v = .ref a ∧ Sk b K H a xs ∧ DpAll K H xs ds := by
  rcases h with ⟨h, _⟩ | ⟨a, _, _, rfl⟩
  · cases h with
    | lst h1 h2 => cases e; exact ⟨true, _, _, rfl, h1, h2⟩
    | tup h1 h2 => cases e; exact ⟨false, _, _, rfl, h1, h2⟩
    | _ => cases e
  · cases e
/-- what a check of the items comes to -/
def Ck (lo hi : Int) (ds : List PyData) (good : Prop) (bad : Nat → Prop) : Prop := (AG lo hi ds ∧ good) ∨ ∃ k, FB lo hi ds k ∧ bad k
theorem Ck.bad_at {lo hi : Int} {ds : List PyData} {good : Prop} {bad : Nat → Prop} {i : Nat} {d : PyData} (h : Ck lo hi ds good bad) (hk : ∀ k, FB lo hi ds k → i ≤ k) (e1 : ds[i]? = some d) (e2 : inI d lo hi = false) : bad i := by
  rcases h with ⟨h, _⟩ | ⟨k, h, b⟩
  · rw [h i d e1] at e2
    cases e2
  · rcases Nat.lt_or_ge i k with z | z
    · rw [h.2 i z d e1] at e2
      cases e2
    · obtain rfl := Nat.le_antisymm z (hk k h)
      exact b
theorem Ck.good_end {lo hi : Int} {ds : List PyData} {good : Prop} {bad : Nat → Prop} (h : Ck lo hi ds good bad) (hk : ∀ k, FB lo hi ds k → ds.length ≤ k) : good := by
  rcases h with ⟨_, h⟩ | ⟨k, h, b⟩
  · exact h
  · have h' := h
    obtain ⟨⟨d, e, _⟩, _⟩ := h'
    have := (List.getElem?_eq_some_iff.mp e).1
    have := hk k h
    omega
theorem fb_next {lo hi : Int} {ds : List PyData} {i : Nat} {d : PyData} (hk : ∀ k, FB lo hi ds k → i ≤ k) (e1 : ds[i]? = some d) (e2 : inI d lo hi = true) : ∀ k, FB lo hi ds k → i + 1 ≤ k := fun k h => by
  rcases Nat.lt_or_ge i k with z | z
  · exact z
  · obtain rfl := Nat.le_antisymm z (hk k h)
    obtain ⟨⟨d', e, f⟩, _⟩ := h
    rw [e1] at e
    cases e
    rw [e2] at f
    cases f
/-! ### bits, plainly -/
def bitsL (n : Int) (W : Nat) : List Int := (List.range W).map fun k => n / 2 ^ k % 2
def bitsAll (ns : List Int) (W : Nat) : List Int := ns.flatMap (bitsL · W)
def numL : List Int → Int
  | [] => 0
  | b :: bs => 2 * numL bs + b
def wordsL (ns : List Int) (W m : Nat) : List Int := (List.range m).map fun j => numL ((ns.drop (j * W)).take W)
def vi (ns : List Int) : List V := ns.map V.int
theorem vi_get {ns : List Int} {i : Nat} {x : V} (h : (vi ns)[i]? = some x) : ∃ n, ns[i]? = some n ∧ x = .int n := by
  unfold vi at h
  rw [List.getElem?_map] at h
  cases e : ns[i]? with
  | none => rw [e] at h; cases h
  | some n => rw [e] at h; cases h; exact ⟨n, rfl, rfl⟩
theorem vi_len (ns : List Int) : (vi ns).length = ns.length := List.length_map ..
theorem bitsL_len (n : Int) (W : Nat) : (bitsL n W).length = W := by simp [bitsL]
theorem numL_take_step {ns : List Int} {i : Nat} {n : Int} (h : ns[i]? = some n) : numL (ns.drop i) = 2 * numL (ns.drop (i + 1)) + n := by
  have hl := (List.getElem?_eq_some_iff.mp h).1
  rw [List.drop_eq_getElem_cons hl]
  have : ns[i] = n := (List.getElem?_eq_some_iff.mp h).2
  rw [this]
  rfl
/-- a new list -/
def NewLst (xs : List V) (Q : VK) (H : Hp) : Prop := ∀ p H1, H p = none → H1 p = some (.lst xs) → Same H H1 → Q (.ref p) H1
theorem NewLst.mono {xs : List V} {Q : VK} {H H1 : Hp} (h : NewLst xs Q H) (s : Same H H1) : NewLst xs Q H1 := fun p H2 hp ep s2 => h p H2 (by
  cases e : H p with
  | none => rfl
  | some o => rw [s _ _ e] at hp; cases hp) ep (s.trans s2)
def seqD (b : Bool) (ds : List PyData) : PyData := if b then .list ds else .tuple ds
theorem seqD_items (b : Bool) (ds : List PyData) : items (seqD b ds) = some ds := by cases b <;> rfl
theorem sk_rp {b : Bool} {K : PySem.W.Frag} {H : Hp} {a : Addr} {xs : List V} {ds : List PyData} (h : Sk b K H a xs) (h2 : DpAll K H xs ds) : Rp K H (.ref a) (seqD b ds) := by
  cases b with
  | true => exact rp_of (.lst h h2)
  | false => exact rp_of (.tup h h2)
theorem sk_ints {b : Bool} {K : PySem.W.Frag} {H : Hp} {a : Addr} {ns : List Int} (h : Sk b K H a (vi ns)) : Rp K H (.ref a) (seqD b (ns.map .int)) := sk_rp h (dpAll_ints ns)
theorem sk_lst {K : PySem.W.Frag} {H : Hp} {a : Addr} {xs : List V} (h : H a = some (.lst xs)) : Sk true K H a xs := .inl (.inl h)
theorem ag_ints {lo hi : Int} {ns : List Int} (h : ∀ n ∈ ns, lo ≤ n ∧ n ≤ hi) : AG lo hi (ns.map .int) := fun j d e => by
  rw [List.getElem?_map] at e
  cases e1 : ns[j]? with
  | none => rw [e1] at e; cases e
  | some n =>
    rw [e1] at e
    cases e
    have := h n (List.mem_of_getElem? e1)
    simp [inI, this]
section
variable {P : Program} {w : World} {K : PySem.W.Frag} {mg : Str → Option Value} {base : Heap} {C_InvalidNumber C_BadBits C_BadWords : Addr}
abbrev sp_ckbits (K : PySem.W.Frag) (C : Addr) : Sp := S2 fun x y H Q E => ∃ d n, y = .int n ∧ Rp K H x d ∧ ((isRow d n = false ∧ Thrown C "BadBits" "at" (.int (-1)) E H) ∨
  ∃ ds, items d = some ds ∧ (ds.length : Int) = n ∧ Ck 0 1 ds (∀ H', Same H H' → Q .non H') fun k => Thrown C "BadBits" "at" (.int k) E H)
theorem cl_check_bits (nb : Nb mg) (D_check_bits : DefAt K mg "check_bits" st_check_bits) (C_is_bit : Cl P w K mg base 9 "is_bit" ["value"] (sp_bit K) [[]]) (C_is_row : Cl P w K mg base 3 "is_row" ["value", "many"] (sp_row K) [[]]) (R_BadBits : ExcC P K mg "BadBits" ["at"] C_BadBits)  : Cl P w K mg base 12 "check_bits" ["value", "many"] (sp_ckbits K C_BadBits) [[]] := by
  obtain ⟨f, fd, hm, F⟩ := D_check_bits
  refine cl_of (k := 11) hm F (fun kV doc pm an cdv ct ks hks us ws hl hlw => ?bind) sc_check_bits ?len (fun cdv A outer s H vs Q E hr h => ⟨_, (by exact (pss_cons (ps_if (pt_not (pt_val (pe_cl C_is_row hr (by decide) (fun σ => passAt (takes_of rfl rfl rfl rfl) σ) (pa_cons (pv 0) (pa_cons (pv 1) pa_nil)))))
      (pss_one (ps_raiseE R_BadBits rfl hr (takes_of rfl rfl rfl rfl) (pa_cons (pe_un un_negA pe_int) pa_nil)))
      pss_nil)
      (pss_one (ps_for PassesOwn.leaving rfl (k_en (K := K) rfl rfl nb.n_enumerate (pa_cons (pv 0) pa_nil)) (k_gtup (K := K) rfl rfl (pgs_cons (pg_name (i := 2) sc_check_bits.nd rfl (Or.inl rfl)) (pgs_cons (pg_name (i := 3) sc_check_bits.nd rfl (Or.inl rfl)) pgs_nil)))
      (pss_one (ps_if (pt_not (pt_val (pe_cl C_is_bit hr (by decide) (fun σ => passAt (takes_of rfl rfl rfl rfl) σ) (pa_cons (pv 3) pa_nil))))
      (pss_one (ps_raiseE R_BadBits rfl hr (takes_of rfl rfl rfl rfl) (pa_cons (pv 2) pa_nil)))
      pss_nil)))))), ?_⟩)
  case bind =>
    obtain rfl : ks = ([] : List Str) := by simpa using hks
    · have hl2 : us.length = 2 := by simp only [List.length_append, List.length_cons, List.length_nil] at hl hlw; omega
      match us, hl2, ws, hlw with
      | [_, _], _, [], _ => rfl
  case len =>
    intro vs H Q E h
    obtain ⟨_, _, rfl, _⟩ := h
    rfl
  obtain ⟨x0, x1, rfl, h⟩ := h
  refine i_start [some x0, some x1, none, none] rfl ?_
  obtain ⟨d, n, rfl, hd, h⟩ := h
  repeat walk_at "s"
  refine ⟨d, n, rfl, hd, fun H1 s1 => ?_⟩
  repeat walk_at "s"
  rcases h with ⟨e, t⟩ | ⟨ds, e1, e2, h⟩
  · rw [e]
    repeat walk_at "s"
    exact thrown_1 t s1
  · rw [show isRow d n = true by unfold isRow; rw [e1]; exact decide_eq_true e2]
    repeat walk_at "s"
    obtain ⟨b, a, xs, rfl, h1, h2⟩ := rp_items (rp_same s1 hd) e1
    refine ⟨b, a, xs, rfl, h1, for_G (fun i σ H => (∃ u v, σ = [some (.ref a), some (.int n), u, v]) ∧ Same H1 H ∧ ∀ k, FB 0 1 ds k → i ≤ k) ⟨⟨_, _, rfl⟩, .refl _, fun k _ => Nat.zero_le _⟩ (fun i σ H _ p => sk_same p.2.1 h1) ?_ ?_⟩
    · rintro i x σ H2 H3 hi ⟨⟨u, v, rfl⟩, s2, hk⟩ ⟨T, y, rfl, hT, rfl, hy⟩
      refine i_gtup (.inl (.inl upd_same)) rfl ?_
      have s3 := s2.trans (upd_new (o := .tup [.int (i : Nat), y]) hT)
      obtain ⟨dy, e3, h3⟩ := dpAll_get h2 hy
      repeat walk_at "s"
      refine ⟨dy, rp_same s3 (rp_of h3), ?_⟩
      repeat walk_at "s"
      cases e4 : inI dy 0 1 with
      | true =>
        repeat walk_at "s"
        exact ⟨⟨_, _, rfl⟩, s3, fb_next hk e3 e4⟩
      | false =>
        repeat walk_at "s"
        exact thrown_1 (h.bad_at hk e3 e4) (s1.trans s3)
    · rintro σ H2 ⟨⟨u, v, rfl⟩, s2, hk⟩
      repeat walk_at "s"
      exact h.good_end (fun k f => by rw [← dpAll_len h2]; exact hk k f) H2 (s1.trans s2)
abbrev sp_ckeach (K : PySem.W.Frag) (C : Addr) : Sp := S1 fun x H Q E => ∃ d ds, Rp K H x d ∧ items d = some ds ∧ Ck 0 1 ds (∀ H', Same H H' → Q .non H') fun k => Thrown C "BadBits" "at" (.int k) E H
theorem cl_check_each_bit (nb : Nb mg) (D_check_each_bit : DefAt K mg "_check_each_bit" st_check_each_bit) (C_is_bit : Cl P w K mg base 9 "is_bit" ["value"] (sp_bit K) [[]]) (R_BadBits : ExcC P K mg "BadBits" ["at"] C_BadBits)  : Cl P w K mg base 12 "_check_each_bit" ["bits"] (sp_ckeach K C_BadBits) [[]] := by
  obtain ⟨f, fd, hm, F⟩ := D_check_each_bit
  refine cl_of (k := 11) hm F (fun kV doc pm an cdv ct ks hks us ws hl hlw => ?bind) sc_check_each_bit ?len (fun cdv A outer s H vs Q E hr h => ⟨_, (by exact (pss_one (ps_for PassesOwn.leaving rfl (k_en (K := K) rfl rfl nb.n_enumerate (pa_cons (pv 0) pa_nil)) (k_gtup (K := K) rfl rfl (pgs_cons (pg_name (i := 1) sc_check_each_bit.nd rfl (Or.inl rfl)) (pgs_cons (pg_name (i := 2) sc_check_each_bit.nd rfl (Or.inl rfl)) pgs_nil)))
      (pss_one (ps_if (pt_not (pt_val (pe_cl C_is_bit hr (by decide) (fun σ => passAt (takes_of rfl rfl rfl rfl) σ) (pa_cons (pv 2) pa_nil))))
      (pss_one (ps_raiseE R_BadBits rfl hr (takes_of rfl rfl rfl rfl) (pa_cons (pv 1) pa_nil)))
      pss_nil))))), ?_⟩)
  case bind =>
    obtain rfl : ks = ([] : List Str) := by simpa using hks
    · have hl2 : us.length = 1 := by simp only [List.length_append, List.length_cons, List.length_nil] at hl hlw; omega
      match us, hl2, ws, hlw with
      | [_], _, [], _ => rfl
  case len =>
    intro vs H Q E h
    obtain ⟨_, rfl, _⟩ := h
    rfl
  obtain ⟨x0, rfl, h⟩ := h
  refine i_start [some x0, none, none] rfl ?_
  obtain ⟨d, ds, hd, e1, h⟩ := h
  repeat walk_at "s"
  obtain ⟨b, a, xs, rfl, h1, h2⟩ := rp_items hd e1
  refine ⟨b, a, xs, rfl, h1, for_G (fun i σ H' => (∃ u v, σ = [some (.ref a), u, v]) ∧ Same H H' ∧ ∀ k, FB 0 1 ds k → i ≤ k) ⟨⟨_, _, rfl⟩, .refl _, fun k _ => Nat.zero_le _⟩ (fun i σ H _ p => sk_same p.2.1 h1) ?_ ?_⟩
  · rintro i x σ H2 H3 hi ⟨⟨u, v, rfl⟩, s2, hk⟩ ⟨T, y, rfl, hT, rfl, hy⟩
    refine i_gtup (.inl (.inl upd_same)) rfl ?_
    have s3 := s2.trans (upd_new (o := .tup [.int (i : Nat), y]) hT)
    obtain ⟨dy, e3, h3⟩ := dpAll_get h2 hy
    repeat walk_at "s"
    refine ⟨dy, rp_same s3 (rp_of h3), ?_⟩
    repeat walk_at "s"
    cases e4 : inI dy 0 1 with
    | true =>
      repeat walk_at "s"
      exact ⟨⟨_, _, rfl⟩, s3, fb_next hk e3 e4⟩
    | false =>
      repeat walk_at "s"
      exact thrown_1 (h.bad_at hk e3 e4) s3
  · rintro σ H2 ⟨⟨u, v, rfl⟩, s2, hk⟩
    repeat walk_at "s"
    exact h.good_end (fun k f => by rw [← dpAll_len h2]; exact hk k f) H2 s2
abbrev sp_low : Sp := S2 fun x y H Q E => ∃ (n : Int) (W : Nat), x = .int n ∧ y = .int W ∧ W ≤ 64 ∧ NewLst (vi (bitsL n W)) Q H
theorem shr_and {n : Int} {i : Nat} {Q : VK} {H : Hp} (h : Q (.int (n / 2 ^ i % 2)) H) : Q (.int (Builtin.bitAnd (n / 2 ^ (((0 : Int) + (i : Nat) * 1).toNat)) 1)) H := by
  rw [PyProof.Rows.bitAnd_m1, show ((0 : Int) + (i : Nat) * 1).toNat = i by omega]
  exact h
theorem bitsL_get {n : Int} {W i : Nat} {y : V} (h : (vi (bitsL n W))[i]? = some y) : y = .int (n / 2 ^ i % 2) := by
  obtain ⟨m, h1, rfl⟩ := vi_get h
  unfold bitsL at h1
  rw [List.getElem?_map] at h1
  cases e : (List.range W)[i]? with
  | none => rw [e] at h1; cases h1
  | some k =>
    rw [e] at h1
    cases h1
    have := (List.getElem?_eq_some_iff.mp e).2
    rw [List.getElem_range] at this
    subst this
    rfl
theorem cl_low_bits (nb : Nb mg) (D_low_bits : DefAt K mg "_low_bits" st_low_bits)   : Cl P w K mg base 3 "_low_bits" ["value", "width"] sp_low [[]] := by
  obtain ⟨f, fd, hm, F⟩ := D_low_bits
  refine cl_of (k := 2) hm F (fun kV doc pm an cdv ct ks hks us ws hl hlw => ?bind) sc_low_bits ?len (fun cdv A outer s H vs Q E hr h => ⟨_, (by exact (pss_one (ps_ret (pe_lc (own := [("at", 2)]) rfl sc_low_bits.nd (pi_rg1 rfl nb.n_range (pa_cons (pv 1) pa_nil)) (blkOk_by (own := [("at", 2)]) (N := ["value", "width", "at"]) (sc := defScope st_low_bits) (by decide +kernel)) (fun _ _ _ _ _ => (pg_name (i := 2) sc_low_bits.nd rfl (Or.inl rfl))) (fun _ _ _ _ _ => pts_nil) (fun _ _ _ _ _ => (pe_op op_andA (pe_op op_shrA (pv 0) (pv 2)) pe_int)))))), ?_⟩)
  case bind =>
    obtain rfl : ks = ([] : List Str) := by simpa using hks
    · have hl2 : us.length = 2 := by simp only [List.length_append, List.length_cons, List.length_nil] at hl hlw; omega
      match us, hl2, ws, hlw with
      | [_, _], _, [], _ => rfl
  case len =>
    intro vs H Q E h
    obtain ⟨_, _, rfl, _⟩ := h
    rfl
  obtain ⟨x0, x1, rfl, h⟩ := h
  refine i_start [some x0, some x1, none] rfl ?_
  obtain ⟨n, W, rfl, rfl, hW, h⟩ := h
  repeat walk_at "s"
  refine ⟨(W : Nat), rfl, by omega, by omega, lc_new (vi (bitsL n W)) [some (.int n), some (.int W), none] rfl (by rw [vi_len, bitsL_len]; omega) (sz (by omega)) (fun _ _ => trivial) ?_ h⟩
  rintro i x y H1 H2 R Z hi hy s1 ⟨rfl, rfl⟩ hR
  repeat walk_at "s"
  refine ⟨rfl, ?_⟩
  repeat walk_at "s"
  refine i_shr (by omega) ?_
  repeat walk_at "s"
  refine i_band (shr_and ?_)
  have := hR H2 (.refl _)
  rw [bitsL_get hy] at this
  exact this
abbrev sp_numof (K : PySem.W.Frag) : Sp := S1 fun x H Q E => ∃ b a ns, x = .ref a ∧ Sk b K H a (vi ns) ∧ ns.length ≤ 64 ∧ Q (.int (numL ns)) H
theorem cl_number_of (nb : Nb mg) (D_number_of : DefAt K mg "_number_of" st_number_of)   : Cl P w K mg base 3 "_number_of" ["bits"] (sp_numof K) [[]] := by
  obtain ⟨f, fd, hm, F⟩ := D_number_of
  refine cl_of (k := 2) hm F (fun kV doc pm an cdv ct ks hks us ws hl hlw => ?bind) sc_number_of ?len (fun cdv A outer s H vs Q E hr h => ⟨_, (by exact (pss_cons (ps_set (i := 1) sc_number_of.nd rfl (Or.inl rfl) pe_int)
      (pss_cons (ps_for PassesOwn.leaving rfl (k_rv (K := K) rfl rfl nb.n_reversed (pa_cons (pv 0) pa_nil)) (pg_name (i := 2) sc_number_of.nd rfl (Or.inl rfl))
      (pss_one (ps_set (i := 1) sc_number_of.nd rfl (Or.inl rfl) (pe_op (k_add (K := K) rfl) (pe_op op_mulA pe_int (pv 1)) (pv 2)))))
      (pss_one (ps_ret (pv 1)))))), ?_⟩)
  case bind =>
    obtain rfl : ks = ([] : List Str) := by simpa using hks
    · have hl2 : us.length = 1 := by simp only [List.length_append, List.length_cons, List.length_nil] at hl hlw; omega
      match us, hl2, ws, hlw with
      | [_], _, [], _ => rfl
  case len =>
    intro vs H Q E h
    obtain ⟨_, rfl, _⟩ := h
    rfl
  obtain ⟨x0, rfl, h⟩ := h
  refine i_start [some x0, none, none] rfl ?_
  obtain ⟨b, a, ns, rfl, h1, hl, h⟩ := h
  repeat walk_at "s"
  refine ⟨b, a, _, rfl, sz (by rw [vi_len]; omega), h1, for_G (fun i σ H' => (∃ u, σ = [some (.ref a), some (.int (numL (ns.drop (ns.length - i)))), u]) ∧ H' = H) ⟨⟨_, by rw [Nat.sub_zero, List.drop_length]; rfl⟩, rfl⟩ (fun i σ H _ p => by rw [p.2]; exact h1) ?_ ?_⟩
  · rintro i x σ H2 H3 hi ⟨⟨u, rfl⟩, rfl⟩ ⟨rfl, hy⟩
    rw [vi_len] at hi hy
    obtain ⟨n, e, rfl⟩ := vi_get hy
    repeat walk_at "s"
    refine i_mulI (by unfold CMul; omega) ?_
    repeat walk_at "s"
    have := numL_take_step e
    rw [show ns.length - 1 - i + 1 = ns.length - i by omega] at this
    refine ⟨⟨some (.int n), ?_⟩, rfl⟩
    rw [show ns.length - (i + 1) = ns.length - 1 - i by omega, this]
  · rintro σ H2 ⟨⟨u, rfl⟩, rfl⟩
    repeat walk_at "s"
    rw [vi_len, Nat.sub_self, List.drop_zero]
    exact h
theorem join_bits {ns : List Int} {W : Nat} : joinN (fun i => vi (bitsL (ns.getD i 0) W)) ns.length = vi (bitsAll ns W) := by
  have key : ∀ k, k ≤ ns.length → joinN (fun i => vi (bitsL (ns.getD i 0) W)) k = vi (bitsAll (ns.take k) W) := by
    intro k
    induction k with
    | zero => intro _; rfl
    | succ k ih =>
      intro hk
      have h1 : ns[k]? = some ns[k] := by simp
      rw [joinN, ih (by omega), List.take_succ, h1]
      have h2 : ns.getD k 0 = ns[k] := by simp [List.getD, h1]
      simp only [bitsAll, vi, List.flatMap_append, List.map_append, h2]
      simp
  have := key ns.length (Nat.le_refl _)
  rwa [List.take_length] at this
theorem join_len {ns : List Int} {W : Nat} (hW : W ≤ 8) : ∀ k, k ≤ 64 → (joinN (fun i => vi (bitsL (ns.getD i 0) W)) k).length ≤ sizeLine := by
  have key : ∀ k, (joinN (fun i => vi (bitsL (ns.getD i 0) W)) k).length = k * W := by
    intro k
    induction k with
    | zero => simp [joinN]
    | succ k ih => rw [joinN, List.length_append, ih, vi_len, bitsL_len, Nat.succ_mul]
  intro k hk
  rw [key]
  exact sz (Nat.le_trans (Nat.mul_le_mul hk hW) (by decide))
theorem inI_of {d : PyData} {lo hi : Int} {ds : List PyData} {i : Nat} (h : AG lo hi ds) (e : ds[i]? = some d) : inI d lo hi = true := h i d e
abbrev sp_bitsof (K : PySem.W.Frag) : Sp := S2 fun x y H Q E => ∃ (b : Bool) (a : Addr) (ns : List Int) (W : Nat), x = .ref a ∧ y = .int W ∧ Sk b K H a (vi ns) ∧ 1 ≤ W ∧ W ≤ 8 ∧ (∀ n ∈ ns, 0 ≤ n ∧ n ≤ 2 ^ W - 1) ∧ ns.length ≤ 64 ∧ NewLst (vi (bitsAll ns W)) Q H
theorem cl_bits_of (nb : Nb mg) (D_bits_of : DefAt K mg "bits_of" st_bits_of) (C_is_number : Cl P w K mg base 6 "is_number" ["value", "least", "most"] (sp_num K) [[]]) (C_low_bits : Cl P w K mg base 3 "_low_bits" ["value", "width"] sp_low [[]]) (R_BadWords : ExcC P K mg "BadWords" ["at"] C_BadWords) (R_InvalidNumber : ExcC P K mg "InvalidNumber" ["value"] C_InvalidNumber) {t_MOST_WIDTH : Tok} (c_MOST_WIDTH : mg "MOST_WIDTH" = some (.int 8 t_MOST_WIDTH))  : Cl P w K mg base 9 "bits_of" ["words", "width"] (sp_bitsof K) [["width"]] := by
  obtain ⟨f, fd, hm, F⟩ := D_bits_of
  refine cl_of (k := 8) hm F (fun kV doc pm an cdv ct ks hks us ws hl hlw => ?bind) sc_bits_of ?len (fun cdv A outer s H vs Q E hr h => ⟨_, (by exact (pss_cons (ps_if (pt_not (pt_val (pe_cl C_is_number hr (by decide) (fun σ => passAt (takes_of rfl rfl rfl rfl) σ) (pa_cons (pv 1) (pa_cons pe_int (pa_cons (pe_glob (v := .int 8) (by rfl) c_MOST_WIDTH ⟨_, rfl⟩) pa_nil))))))
      (pss_one (ps_raiseE R_InvalidNumber rfl hr (takes_of rfl rfl rfl rfl) (pa_cons (pv 1) pa_nil)))
      pss_nil)
      (pss_cons (ps_if (pt_not (pt_val (pe_callB (k_isiT (K := K) rfl) (by rfl) nb.n_isinstance (by decide +kernel) (pa_cons (pv 0) (pa_cons (pe_tup (pa_cons (pe_bltn (v := .ty "list") (by rfl) (nb.n_list) (by decide +kernel) rfl) (pa_cons (pe_bltn (v := .ty "tuple") (by rfl) (nb.n_tuple) (by decide +kernel) rfl) pa_nil))) pa_nil)))))
      (pss_one (ps_raiseE R_BadWords rfl hr (takes_of rfl rfl rfl rfl) (pa_cons (pe_un un_negA pe_int) pa_nil)))
      pss_nil)
      (pss_cons (ps_for PassesOwn.leaving rfl (k_en (K := K) rfl rfl nb.n_enumerate (pa_cons (pv 0) pa_nil)) (k_gtup (K := K) rfl rfl (pgs_cons (pg_name (i := 2) sc_bits_of.nd rfl (Or.inl rfl)) (pgs_cons (pg_name (i := 3) sc_bits_of.nd rfl (Or.inl rfl)) pgs_nil)))
      (pss_one (ps_if (pt_not (pt_val (pe_cl C_is_number hr (by decide) (fun σ => passAt (takes_of rfl rfl rfl rfl) σ) (pa_cons (pv 3) (pa_cons pe_int (pa_cons (pe_op op_subA (pe_op op_shlA pe_int (pv 1)) pe_int) pa_nil))))))
      (pss_one (ps_raiseE R_BadWords rfl hr (takes_of rfl rfl rfl rfl) (pa_cons (pv 2) pa_nil)))
      pss_nil)))
      (pss_one (ps_ret (pe_lc2 (own := [("word", 3), ("bit", 4)]) (vs1 := [4]) rfl sc_bits_of.nd (k_seq (K := K) rfl (pv 0)) (blkOk_by (own := [("word", 3), ("bit", 4)]) (N := ["words", "width", "at", "word", "bit"]) (sc := defScope st_bits_of) (by decide +kernel)) (by decide) (fun _ _ _ _ _ => (pg_name (i := 3) sc_bits_of.nd rfl (Or.inl rfl))) (fun _ _ _ _ _ => pts_nil) (fun _ _ _ _ _ => (k_seq (K := K) rfl (pe_cl C_low_bits hr (by decide) (fun σ => passN σ) (pa_cons (pv 3) (pa_cons (pv 1) pa_nil))))) (fun _ _ _ _ _ => (pg_name (i := 4) sc_bits_of.nd rfl (Or.inl rfl))) (fun _ _ _ _ _ => pts_nil) (fun _ _ _ _ _ => (pv 4))))))))), ?_⟩)
  case bind =>
    obtain rfl : ks = (["width"] : List Str) := by simpa using hks
    · have hl2 : us.length = 1 := by simp only [List.length_append, List.length_cons, List.length_nil] at hl hlw; omega
      match us, hl2, ws, hlw with
      | [_], _, [_], _ => rfl
  case len =>
    intro vs H Q E h
    obtain ⟨_, _, rfl, _⟩ := h
    rfl
  obtain ⟨x0, x1, rfl, h⟩ := h
  refine i_start [some x0, some x1, none, none, none] rfl ?_
  obtain ⟨b, a, ns, W, rfl, rfl, h1, w1, w8, hn, hl, h⟩ := h
  repeat walk_at "s"
  refine ⟨_, 1, 8, rfl, rfl, rp_of (.int _), ?_⟩
  repeat walk_at "s"
  rw [show inI (.int W) 1 8 = true by simp [inI]; omega]
  repeat walk_at "s"
  refine i_newT fun T H1 hT eT s1 => ?_
  repeat walk_at "s"
  refine i_isi2 eT (rp_ty (sk_ints (sk_same s1 h1))) (by simp) (by simp) ?_
  repeat walk_at "s"
  rw [show (isaD (seqD b (ns.map .int)) "list" || isaD (seqD b (ns.map .int)) "tuple") = true by cases b <;> rfl]
  repeat walk_at "s"
  have hag := ag_ints hn
  refine ⟨b, a, _, rfl, sk_same s1 h1, for_G (fun i σ H' => (∃ u v, σ = [some (.ref a), some (.int W), u, v, none]) ∧ Same H1 H') ⟨⟨_, _, rfl⟩, .refl _⟩ (fun i σ H _ p => sk_same (s1.trans p.2) h1) ?_ ?_⟩
  · rintro i x σ H2 H3 hi ⟨⟨u, v, rfl⟩, s2⟩ ⟨T, y, rfl, hT, rfl, hy⟩
    refine i_gtup (.inl (.inl upd_same)) rfl ?_
    have s3 := s2.trans (upd_new (o := .tup [.int (i : Nat), y]) hT)
    obtain ⟨dy, e3, h3⟩ := dpAll_get (dpAll_ints (K := K) (H := H) ns) hy
    repeat walk_at "s"
    refine i_shl1 (by omega) (m := 2 ^ W) (by rw [Int.toNat_natCast]) ?_
    repeat walk_at "s"
    refine ⟨dy, _, _, rfl, rfl, rp_same (s1.trans s3) (rp_of h3), ?_⟩
    repeat walk_at "s"
    rw [hag i dy e3]
    repeat walk_at "s"
    exact ⟨⟨_, _, rfl⟩, s3⟩
  · rintro σ H2 ⟨⟨u, v, rfl⟩, s2⟩
    repeat walk_at "s"
    repeat walk_at "s"
    have s12 := s1.trans s2
    refine ⟨b, a, _, rfl, sk_same s12 h1, lc2_new (fun i => vi (bitsL (ns.getD i 0) W)) [some (.ref a), some (.int W), u, none, none] rfl (fun i hi => join_len w8 i (by rw [vi_len] at hi; omega)) (fun H' s' => sk_same (s12.trans s') h1) ?_ ?_⟩
    · rintro i x H3 H4 D acc Nx Z hi s3 eD ⟨rfl, hy⟩ k
      obtain ⟨n, e, rfl⟩ := vi_get hy
      repeat walk_at "s"
      refine ⟨rfl, ?_⟩
      repeat walk_at "s"
      refine ⟨n, W, rfl, rfl, by omega, fun p H5 hp ep s5 => ?_⟩
      have e0 : ns.getD i 0 = n := by simp [List.getD, e]
      rw [e0] at k
      refine ⟨true, p, _, rfl, sk_lst ep, k H5 _ _ _ _ [some (.ref a), some (.int W), u, some (.int n), none] [some (.ref a), some (.int W), u, some (.int n), none] s5 (fun H' s' => sk_lst (s' _ _ (to_hid ep (fun z => by subst z; rw [hp] at eD; cases eD)))) rfl ?_⟩
      rintro j x1 z H6 H7 R Z' hz s6 ⟨rfl, hx⟩ hR
      rw [hz] at hx
      cases hx
      repeat walk_at "s"
      refine ⟨rfl, ?_⟩
      repeat walk_at "s"
      exact hR _ (.refl _)
    · intro p H3 hp ep s3
      rw [vi_len, join_bits] at ep
      exact h p H3 (by
        cases e : H p with
        | none => rfl
        | some o => rw [s12 _ _ e] at hp; cases hp) ep (s12.trans s3)
theorem vi_cut {ns : List Int} {a b : Nat} (h : b ≤ ns.length) (hab : a ≤ b) {x y : Int} (ex : x = (a : Nat)) (ey : y = (b : Nat)) : cutV (vi ns) (some x) (some y) = vi ((ns.drop a).take (b - a)) := by
  rw [ex, ey, cutV_nat (by rw [vi_len]; exact h) hab]
  simp [vi, List.map_take, List.map_drop]
theorem vi_from {ns : List Int} {a : Nat} (h : a ≤ ns.length) {x : Int} (ex : x = (a : Nat)) : cutV (vi ns) (some x) none = vi (ns.drop a) := by
  rw [ex, cutV_from (by rw [vi_len]; exact h)]
  simp [vi, List.map_drop]
theorem vi_to {ns : List Int} {a : Nat} (h : a ≤ ns.length) {x : Int} (ex : x = (a : Nat)) : cutV (vi ns) none (some x) = vi (ns.take a) := by
  rw [ex, cutV_to (by rw [vi_len]; exact h)]
  simp [vi, List.map_take]
theorem wordsL_get {ns : List Int} {W m i : Nat} {y : V} (h : (vi (wordsL ns W m))[i]? = some y) : y = .int (numL ((ns.drop (i * W)).take W)) := by
  obtain ⟨n, h1, rfl⟩ := vi_get h
  unfold wordsL at h1
  rw [List.getElem?_map] at h1
  cases e : (List.range m)[i]? with
  | none => rw [e] at h1; cases h1
  | some k =>
    rw [e] at h1
    cases h1
    have := (List.getElem?_eq_some_iff.mp e).2
    rw [List.getElem_range] at this
    subst this
    rfl
theorem wordsL_len (ns : List Int) (W m : Nat) : (wordsL ns W m).length = m := by simp [wordsL]
abbrev sp_wordsof (K : PySem.W.Frag) : Sp := S2 fun x y H Q E => ∃ (b : Bool) (a : Addr) (ns : List Int) (W m : Nat), x = .ref a ∧ y = .int W ∧ Sk b K H a (vi ns) ∧ 1 ≤ W ∧ W ≤ 8 ∧ ns.length = m * W ∧ m ≤ 8 ∧ RgC 0 ((ns.length : Nat) : Int) W m ∧ (∀ n ∈ ns, 0 ≤ n ∧ n ≤ 1) ∧ NewLst (vi (wordsL ns W m)) Q H
theorem cl_words_of (nb : Nb mg) (D_words_of : DefAt K mg "words_of" st_words_of) (C_is_number : Cl P w K mg base 6 "is_number" ["value", "least", "most"] (sp_num K) [[]]) (C_number_of : Cl P w K mg base 3 "_number_of" ["bits"] (sp_numof K) [[]]) (C_check_each_bit : Cl P w K mg base 12 "_check_each_bit" ["bits"] (sp_ckeach K C_BadBits) [[]]) (R_BadBits : ExcC P K mg "BadBits" ["at"] C_BadBits) (R_InvalidNumber : ExcC P K mg "InvalidNumber" ["value"] C_InvalidNumber) {t_MOST_WIDTH : Tok} (c_MOST_WIDTH : mg "MOST_WIDTH" = some (.int 8 t_MOST_WIDTH))  : Cl P w K mg base 15 "words_of" ["bits", "width"] (sp_wordsof K) [["width"]] := by
  obtain ⟨f, fd, hm, F⟩ := D_words_of
  refine cl_of (k := 14) hm F (fun kV doc pm an cdv ct ks hks us ws hl hlw => ?bind) sc_words_of ?len (fun cdv A outer s H vs Q E hr h => ⟨_, (by exact (pss_cons (ps_if (pt_not (pt_val (pe_cl C_is_number hr (by decide) (fun σ => passAt (takes_of rfl rfl rfl rfl) σ) (pa_cons (pv 1) (pa_cons pe_int (pa_cons (pe_glob (v := .int 8) (by rfl) c_MOST_WIDTH ⟨_, rfl⟩) pa_nil))))))
      (pss_one (ps_raiseE R_InvalidNumber rfl hr (takes_of rfl rfl rfl rfl) (pa_cons (pv 1) pa_nil)))
      pss_nil)
      (pss_cons (ps_if (PW.pt (pw_or (pt_not (pt_val (pe_callB (k_isiT (K := K) rfl) (by rfl) nb.n_isinstance (by decide +kernel) (pa_cons (pv 0) (pa_cons (pe_tup (pa_cons (pe_bltn (v := .ty "list") (by rfl) (nb.n_list) (by decide +kernel) rfl) (pa_cons (pe_bltn (v := .ty "tuple") (by rfl) (nb.n_tuple) (by decide +kernel) rfl) pa_nil))) pa_nil))))) (pw_or1 (pt_cmpR (k_ne (K := K) rfl hr.units) (pe_op op_modA (pe_callB (k_len (K := K) rfl) (by rfl) nb.n_len (by decide +kernel) (pa_cons (pv 0) pa_nil)) (pv 1)) pe_int (nomark _)))))
      (pss_one (ps_raiseE R_BadBits rfl hr (takes_of rfl rfl rfl rfl) (pa_cons (pe_un un_negA pe_int) pa_nil)))
      pss_nil)
      (pss_cons (ps_expr (pe_cl C_check_each_bit hr (by decide) (fun σ => passAt (takes_of rfl rfl rfl rfl) σ) (pa_cons (pv 0) pa_nil)))
      (pss_one (ps_ret (pe_lc (own := [("at", 2)]) rfl sc_words_of.nd (pi_rg3 rfl nb.n_range (pa_cons pe_int (pa_cons (pe_callB (k_len (K := K) rfl) (by rfl) nb.n_len (by decide +kernel) (pa_cons (pv 0) pa_nil)) (pa_cons (pv 1) pa_nil)))) (blkOk_by (own := [("at", 2)]) (N := ["bits", "width", "at"]) (sc := defScope st_words_of) (by decide +kernel)) (fun _ _ _ _ _ => (pg_name (i := 2) sc_words_of.nd rfl (Or.inl rfl))) (fun _ _ _ _ _ => pts_nil) (fun _ _ _ _ _ => (pe_cl C_number_of hr (by decide) (fun σ => passN σ) (pa_cons (k_sl (K := K) rfl (pv 0) (po_some (pv 2)) (po_some (pe_op (k_add (K := K) rfl) (pv 2) (pv 1)))) pa_nil)))))))))), ?_⟩)
  case bind =>
    obtain rfl : ks = (["width"] : List Str) := by simpa using hks
    · have hl2 : us.length = 1 := by simp only [List.length_append, List.length_cons, List.length_nil] at hl hlw; omega
      match us, hl2, ws, hlw with
      | [_], _, [_], _ => rfl
  case len =>
    intro vs H Q E h
    obtain ⟨_, _, rfl, _⟩ := h
    rfl
  obtain ⟨x0, x1, rfl, h⟩ := h
  refine i_start [some x0, some x1, none] rfl ?_
  obtain ⟨b, a, ns, W, m, rfl, rfl, h1, w1, w8, hl, hm8, hrg, hn, h⟩ := h
  repeat walk_at "s"
  refine ⟨_, 1, 8, rfl, rfl, rp_of (.int _), ?_⟩
  repeat walk_at "s"
  rw [show inI (.int W) 1 8 = true by simp [inI]; omega]
  repeat walk_at "s"
  refine i_newT fun T H1 hT eT s1 => ?_
  repeat walk_at "s"
  refine i_isi2 eT (rp_ty (sk_ints (sk_same s1 h1))) (by simp) (by simp) ?_
  repeat walk_at "s"
  rw [show (isaD (seqD b (ns.map .int)) "list" || isaD (seqD b (ns.map .int)) "tuple") = true by cases b <;> rfl]
  repeat walk_at "s"
  refine i_lenC (len_sk (sk_same s1 h1)) ?_
  repeat walk_at "s"
  refine i_mod (by omega) ?_
  repeat walk_at "s"
  rw [vi_len, hl, show decide (((m * W : Nat) : Int) % (W : Int) = 0) = true by rw [Int.natCast_mul, Int.mul_emod_left]; rfl]
  repeat walk_at "s"
  refine ⟨_, _, sk_ints (sk_same s1 h1), seqD_items _ _, .inl ⟨ag_ints hn, fun H2 s2 => ?_⟩⟩
  have s12 := s1.trans s2
  repeat walk_at "s"
  refine i_lenC (len_sk (sk_same s12 h1)) ?_
  repeat walk_at "s"
  rw [vi_len]
  refine ⟨0, _, _, m, rfl, hrg, lc_new (vi (wordsL ns W m)) [some (.ref a), some (.int W), none] rfl (by rw [vi_len, wordsL_len]) (sz (by omega)) (fun _ _ => trivial) ?_ (h.mono s12)⟩
  rintro i x y H3 H4 R Z hi hy s3 ⟨rfl, rfl⟩ hR
  repeat walk_at "s"
  refine ⟨rfl, ?_⟩
  repeat walk_at "s"
  have hle : i * W + W ≤ ns.length := by
    rw [hl, ← Nat.succ_mul]
    exact Nat.mul_le_mul_right _ hi
  refine i_slS (sk_same (s12.trans s3) h1) fun p H5 s5 hp => ?_
  rw [vi_cut hle (Nat.le_add_right _ _) (by rw [Int.zero_add, Int.natCast_mul]) (by rw [Int.zero_add, Int.natCast_add, Int.natCast_mul]), Nat.add_sub_cancel_left] at hp
  repeat walk_at "s"
  refine ⟨b, p, _, rfl, hp, by rw [List.length_take]; omega, ?_⟩
  have := hR H5 s5
  rw [wordsL_get hy] at this
  exact this
end
end T

set_option Elab.async false
set_option linter.all false
set_option maxRecDepth 100000
set_option maxHeartbeats 4000000
/-! k62, part C: the machine. -/
namespace T
open PySem PySem.Spec PyProof.Rows L2 VI VC VG VD VE VF VH VL
theorem sc_check_width : FnScope ["width"] ["width"] (defScope st_check_width) := ⟨rfl, rfl, rfl, by decide +kernel, rfl, by decide +kernel, by decide +kernel⟩
theorem sc_check_state : FnScope ["width", "counter", "hand", "cells", "many", "at", "word"] ["width", "counter", "hand", "cells"] (defScope st_check_state) := ⟨rfl, rfl, rfl, by decide +kernel, rfl, by decide +kernel, by decide +kernel⟩
theorem sc_many_bits : FnScope ["width"] ["width"] (defScope st_many_bits) := ⟨rfl, rfl, rfl, by decide +kernel, rfl, by decide +kernel, by decide +kernel⟩
theorem sc_plain_step : FnScope ["width", "counter", "hand", "cells", "many", "after", "address", "deed"] ["width", "counter", "hand", "cells"] (defScope st_plain_step) := ⟨rfl, rfl, rfl, by decide +kernel, rfl, by decide +kernel, by decide +kernel⟩
set_option hygiene false in
local macro_rules | `(tactic| walk_at "s") => `(tactic| with_reducible first | refine i_seq ?_ | refine i_asg ?_ | refine i_ret ?_ | refine i_drop ?_ | refine i_next ?_ | refine i_nx ?_ | refine i_rt ?_ | refine i_ct ?_ | refine i_bk ?_ | refine i_op ?_ | refine i_un ?_ | refine i_cons ?_ | refine i_nil ?_ | refine i_cb ?_ | refine i_calls ?_ | refine i_c ?_ | refine i_ifs ?_ | refine i_ife ?_ | refine i_test ?_ | refine i_tb ?_ | refine i_bl ?_ | refine i_and ?_ | refine i_or ?_ | refine i_not ?_ | refine i_andv ?_ | refine i_orv ?_ | refine i_notv ?_ | refine i_chain ?_ | refine i_addI ?_ | refine i_sub ?_ | refine i_neg ?_ | refine i_eqI ?_ | refine i_eqS ?_ | refine i_neI ?_ | refine i_neS ?_ | refine i_lt ?_ | refine i_le ?_ | refine i_gt ?_ | refine i_ge ?_ | refine i_isN ?_ | refine i_notN ?_ | refine i_gnil ?_ | refine i_gcons ?_ | refine i_gsub ?_ | refine i_par ?_ | refine i_par3 ?_ | refine i_two ?_ | refine i_three ?_ | refine i_slice ?_ | refine i_nopart ?_ | refine i_part ?_ | refine i_ip ?_ | refine i_yes ?_ | refine i_iftrue ?_ | refine i_ifnt ?_ | refine i_ifnf ?_ | refine i_iffalse ?_ | refine i_S1 ?_ | refine i_S2 ?_ | refine i_S3 ?_ | refine i_S4 ?_ | refine i_S5 ?_ | refine i_intC ?_ | refine i_tupN ?_ | refine i_lstN ?_ | refine i_raise ?_ | refine i_for ?_ | refine i_lc ?_ | refine i_rg1 ?_ | refine i_rg2 ?_ | refine i_rg3 ?_ | refine i_sq ?_ | refine i_en ?_ | refine i_rv ?_ | refine i_callks ?_ | refine i_star ?_ | refine i_lc2 ?_ | walk_at "v")
set_option hygiene false in
local macro_rules | `(tactic| walk_at "v") => `(tactic| with_reducible first | refine i_v0 ?_ | refine i_v1 ?_ | refine i_v2 ?_ | refine i_v3 ?_ | refine i_v4 ?_ | refine i_v5 ?_ | refine i_v6 ?_ | refine i_v7 ?_ | refine i_v8 ?_ | refine i_v9 ?_ | refine i_v10 ?_ | refine i_v11 ?_ | refine i_v12 ?_ | refine i_v13 ?_ | refine i_v14 ?_ | refine i_v15 ?_ | refine i_v16 ?_ | refine i_v17 ?_ | refine i_v18 ?_ | refine i_v19 ?_ | refine i_v20 ?_ | refine i_v21 ?_ | refine i_v22 ?_ | refine i_v23 ?_ | refine i_v24 ?_ | refine i_v25 ?_ | refine i_v26 ?_ | refine i_v27 ?_ | refine i_v28 ?_ | refine i_v29 ?_ | refine i_n0 ?_ | refine i_n1 ?_ | refine i_n2 ?_ | refine i_n3 ?_ | refine i_n4 ?_ | refine i_n5 ?_ | refine i_n6 ?_ | refine i_n7 ?_ | refine i_n8 ?_ | refine i_n9 ?_ | refine i_n10 ?_ | refine i_n11 ?_ | refine i_n12 ?_ | refine i_n13 ?_ | refine i_n14 ?_ | refine i_n15 ?_ | refine i_n16 ?_ | refine i_n17 ?_ | refine i_n18 ?_ | refine i_n19 ?_ | refine i_n20 ?_ | refine i_n21 ?_ | refine i_n22 ?_ | refine i_n23 ?_ | refine i_n24 ?_ | refine i_n25 ?_ | refine i_n26 ?_ | refine i_n27 ?_ | refine i_n28 ?_ | refine i_n29 ?_)
/-- the two machines -/
def WM (W m : Nat) : Prop := (W = 3 ∧ m = 2) ∨ (W = 4 ∧ m = 4)
theorem WM.le {W m : Nat} (h : WM W m) : 3 ≤ W ∧ W ≤ 4 ∧ 2 ≤ m ∧ m ≤ 4 := by rcases h with ⟨rfl, rfl⟩ | ⟨rfl, rfl⟩ <;> decide
theorem WM.p2 {W m : Nat} (h : WM W m) : (2 : Int) ^ ((W : Int) - 2).toNat = (m : Nat) := by rcases h with ⟨rfl, rfl⟩ | ⟨rfl, rfl⟩ <;> decide
theorem WM.pw {W m : Nat} (h : WM W m) : (2 : Int) ^ ((W : Int)).toNat = 2 ^ W := by rw [Int.toNat_natCast]
/-- what a check of a state comes to; numB, wrdB: what is wanted when it fails -/
def StateCk (numB : V → Prop) (wrdB : Int → Prop) (x0 x1 x2 : V) (dw dc dh ds : PyData) (good : Nat → Nat → List PyData → Prop) : Prop :=
  (inI dw 3 4 = false ∧ numB x0) ∨ ∃ W m : Nat, dw = .int W ∧ WM W m ∧
    ((inI dc 0 ((m : Int) - 1) = false ∧ numB x1) ∨ (inI dc 0 ((m : Int) - 1) = true ∧
      ((inI dh 0 (2 ^ W - 1) = false ∧ numB x2) ∨ (inI dh 0 (2 ^ W - 1) = true ∧
        ((isRow ds m = false ∧ wrdB (-1)) ∨ ∃ l, items ds = some l ∧ l.length = m ∧ Ck 0 (2 ^ W - 1) l (good W m l) fun k => wrdB k)))))
theorem StateCk.imp {numB numB' : V → Prop} {wrdB wrdB' : Int → Prop} {x0 x1 x2 : V} {dw dc dh ds : PyData} {good good' : Nat → Nat → List PyData → Prop} (h : StateCk numB wrdB x0 x1 x2 dw dc dh ds good) (fn : ∀ v, numB v → numB' v) (fw : ∀ i, wrdB i → wrdB' i)
    (f : ∀ (W m : Nat) (l : List PyData), dw = .int W → WM W m → inI dc 0 ((m : Int) - 1) = true → inI dh 0 (2 ^ W - 1) = true → items ds = some l → l.length = m → AG 0 (2 ^ W - 1) l → good W m l → good' W m l) : StateCk numB' wrdB' x0 x1 x2 dw dc dh ds good' := by
  rcases h with ⟨e, h⟩ | ⟨W, m, e, wm, h⟩
  · exact .inl ⟨e, fn _ h⟩
  refine .inr ⟨W, m, e, wm, ?_⟩
  rcases h with ⟨e, h⟩ | ⟨e1, h⟩
  · exact .inl ⟨e, fn _ h⟩
  refine .inr ⟨e1, ?_⟩
  rcases h with ⟨e, h⟩ | ⟨e2, h⟩
  · exact .inl ⟨e, fn _ h⟩
  refine .inr ⟨e2, ?_⟩
  rcases h with ⟨e, h⟩ | ⟨l, e3, e4, h⟩
  · exact .inl ⟨e, fw _ h⟩
  refine .inr ⟨l, e3, e4, ?_⟩
  rcases h with ⟨a, g⟩ | ⟨k, a, g⟩
  · exact .inl ⟨a, f W m l e wm e1 e2 e3 e4 a g⟩
  · exact .inr ⟨k, a, fw _ g⟩
/-- the two failures, as they are thrown -/
abbrev ThN (C : Addr) (E : XK) (H : Hp) : V → Prop := fun v => Thrown C "InvalidNumber" "value" v E H
abbrev ThW (C : Addr) (E : XK) (H : Hp) : Int → Prop := fun i => Thrown C "BadWords" "at" (.int i) E H
abbrev ThB (C : Addr) (E : XK) (H : Hp) : Int → Prop := fun i => Thrown C "BadBits" "at" (.int i) E H
theorem inI_int {H : Hp} {K : PySem.W.Frag} {x : V} {d : PyData} {lo hi : Int} (h : Rp K H x d) (e : inI d lo hi = true) : ∃ i, d = .int i ∧ x = .int i ∧ lo ≤ i ∧ i ≤ hi := by
  obtain ⟨i, rfl, rfl⟩ := isI_int h (by cases d <;> first | rfl | cases e)
  simp [inI] at e
  exact ⟨i, rfl, rfl, e.1, e.2⟩
theorem ag_all {lo hi : Int} : ∀ {l : List PyData}, AG lo hi l → ∃ ns : List Int, l = ns.map .int ∧ ∀ n ∈ ns, lo ≤ n ∧ n ≤ hi
  | [], _ => ⟨[], rfl, by simp⟩
  | d :: l, h => by
    obtain ⟨ns, e, f⟩ := ag_all (l := l) fun j d e => h (j + 1) d (by simpa using e)
    have h0 := h 0 d rfl
    cases d <;> first | (cases h0; done) | skip
    rename_i n
    refine ⟨n :: ns, by rw [e]; rfl, ?_⟩
    intro k hk
    rcases List.mem_cons.mp hk with rfl | hk
    · simp [inI] at h0
      exact h0
    · exact f k hk
theorem dpAll_vi {K : PySem.W.Frag} {H : Hp} : ∀ {vs : List V} {ns : List Int}, DpAll K H vs (ns.map .int) → vs = vi ns
  | [], [], _ => rfl
  | _ :: _, _ :: _, .cons a b => by cases a; rw [dpAll_vi b]; rfl
  | [], _ :: _, h => by cases h
  | _ :: _, [], h => by cases h
theorem atI_vi {ns : List Int} {i : Int} (h0 : 0 ≤ i) (h1 : i < ns.length) : atI (vi ns) i = some (.int (ns.getD i.toNat 0)) := by
  have : (vi ns)[i.toNat]? = some (.int (ns.getD i.toNat 0)) := by
    have hl : i.toNat < ns.length := by omega
    unfold vi
    rw [List.getElem?_map]
    simp [List.getD, hl]
  have h2 := atI_nat this
  rwa [Int.toNat_of_nonneg h0] at h2
theorem ixN_ok {n : Nat} {i : Int} (h0 : 0 ≤ i) (h1 : i < n) : ixN n i = some i.toNat := by
  unfold ixN
  rw [if_pos h0, if_pos h1]
theorem getD_mem {ns : List Int} {i : Nat} {P : Int → Prop} (hi : i < ns.length) (h : ∀ n ∈ ns, P n) : P (ns.getD i 0) := by
  have : ns.getD i 0 = ns[i] := by simp [List.getD, hi]
  rw [this]
  exact h _ (List.getElem_mem hi)
section
variable {P : Program} {w : World} {K : PySem.W.Frag} {mg : Str → Option Value} {base : Heap} {C_InvalidNumber C_BadBits C_BadWords : Addr}
abbrev sp_ckw (K : PySem.W.Frag) (C : Addr) : Sp := S1 fun x H Q E => ∃ d, Rp K H x d ∧ ((inI d 3 4 = true ∧ Q .non H) ∨ (inI d 3 4 = false ∧ Thrown C "InvalidNumber" "value" x E H))
theorem cl_check_width (nb : Nb mg) (D_check_width : DefAt K mg "_check_width" st_check_width) (C_is_number : Cl P w K mg base 6 "is_number" ["value", "least", "most"] (sp_num K) [[]]) (R_InvalidNumber : ExcC P K mg "InvalidNumber" ["value"] C_InvalidNumber)  : Cl P w K mg base 9 "_check_width" ["width"] (sp_ckw K C_InvalidNumber) [[]] := by
  obtain ⟨f, fd, hm, F⟩ := D_check_width
  refine cl_of (k := 8) hm F (fun kV doc pm an cdv ct ks hks us ws hl hlw => ?bind) sc_check_width ?len (fun cdv A outer s H vs Q E hr h => ⟨_, (by exact (pss_one (ps_if (pt_not (pt_val (pe_cl C_is_number hr (by decide) (fun σ => passAt (takes_of rfl rfl rfl rfl) σ) (pa_cons (pv 0) (pa_cons pe_int (pa_cons pe_int pa_nil))))))
      (pss_one (ps_raiseE R_InvalidNumber rfl hr (takes_of rfl rfl rfl rfl) (pa_cons (pv 0) pa_nil)))
      pss_nil))), ?_⟩)
  case bind =>
    obtain rfl : ks = ([] : List Str) := by simpa using hks
    · have hl2 : us.length = 1 := by simp only [List.length_append, List.length_cons, List.length_nil] at hl hlw; omega
      match us, hl2, ws, hlw with
      | [_], _, [], _ => rfl
  case len =>
    intro vs H Q E h
    obtain ⟨_, rfl, _⟩ := h
    rfl
  obtain ⟨x0, rfl, h⟩ := h
  refine i_start [some x0] rfl ?_
  obtain ⟨d, hd, h⟩ := h
  repeat walk_at "s"
  refine ⟨d, 3, 4, rfl, rfl, hd, ?_⟩
  repeat walk_at "s"
  rcases h with ⟨e, h⟩ | ⟨e, h⟩
  · rw [e]
    repeat walk_at "s"
    exact h
  · rw [e]
    repeat walk_at "s"
    exact thrown_1 h (.refl _)
abbrev sp_cks (K : PySem.W.Frag) (C_IN C_BW : Addr) : Sp := S4 fun x0 x1 x2 x3 H Q E => ∃ dw dc dh ds, Rp K H x0 dw ∧ Rp K H x1 dc ∧ Rp K H x2 dh ∧ Rp K H x3 ds ∧ StateCk (ThN C_IN E H) (ThW C_BW E H) x0 x1 x2 dw dc dh ds (fun _ _ _ => ∀ H', Same H H' → Q .non H')
theorem cl_check_state (nb : Nb mg) (D_check_state : DefAt K mg "_check_state" st_check_state) (C_is_number : Cl P w K mg base 6 "is_number" ["value", "least", "most"] (sp_num K) [[]]) (C_check_width : Cl P w K mg base 9 "_check_width" ["width"] (sp_ckw K C_InvalidNumber) [[]]) (R_BadWords : ExcC P K mg "BadWords" ["at"] C_BadWords) (R_InvalidNumber : ExcC P K mg "InvalidNumber" ["value"] C_InvalidNumber)  : Cl P w K mg base 12 "_check_state" ["width", "counter", "hand", "cells"] (sp_cks K C_InvalidNumber C_BadWords) [[]] := by
  obtain ⟨f, fd, hm, F⟩ := D_check_state
  refine cl_of (k := 11) hm F (fun kV doc pm an cdv ct ks hks us ws hl hlw => ?bind) sc_check_state ?len (fun cdv A outer s H vs Q E hr h => ⟨_, (by exact (pss_cons (ps_expr (pe_cl C_check_width hr (by decide) (fun σ => passAt (takes_of rfl rfl rfl rfl) σ) (pa_cons (pv 0) pa_nil)))
      (pss_cons (ps_set (i := 4) sc_check_state.nd rfl (Or.inl rfl) (pe_op op_shlA pe_int (pe_op op_subA (pv 0) pe_int)))
      (pss_cons (ps_if (pt_not (pt_val (pe_cl C_is_number hr (by decide) (fun σ => passAt (takes_of rfl rfl rfl rfl) σ) (pa_cons (pv 1) (pa_cons pe_int (pa_cons (pe_op op_subA (pv 4) pe_int) pa_nil))))))
      (pss_one (ps_raiseE R_InvalidNumber rfl hr (takes_of rfl rfl rfl rfl) (pa_cons (pv 1) pa_nil)))
      pss_nil)
      (pss_cons (ps_if (pt_not (pt_val (pe_cl C_is_number hr (by decide) (fun σ => passAt (takes_of rfl rfl rfl rfl) σ) (pa_cons (pv 2) (pa_cons pe_int (pa_cons (pe_op op_subA (pe_op op_shlA pe_int (pv 0)) pe_int) pa_nil))))))
      (pss_one (ps_raiseE R_InvalidNumber rfl hr (takes_of rfl rfl rfl rfl) (pa_cons (pv 2) pa_nil)))
      pss_nil)
      (pss_cons (ps_if (PW.pt (pw_or (pt_not (pt_val (pe_callB (k_isiT (K := K) rfl) (by rfl) nb.n_isinstance (by decide +kernel) (pa_cons (pv 3) (pa_cons (pe_tup (pa_cons (pe_bltn (v := .ty "list") (by rfl) (nb.n_list) (by decide +kernel) rfl) (pa_cons (pe_bltn (v := .ty "tuple") (by rfl) (nb.n_tuple) (by decide +kernel) rfl) pa_nil))) pa_nil))))) (pw_or1 (pt_cmpR (k_ne (K := K) rfl hr.units) (pe_callB (k_len (K := K) rfl) (by rfl) nb.n_len (by decide +kernel) (pa_cons (pv 3) pa_nil)) (pv 4) (nomark _)))))
      (pss_one (ps_raiseE R_BadWords rfl hr (takes_of rfl rfl rfl rfl) (pa_cons (pe_un un_negA pe_int) pa_nil)))
      pss_nil)
      (pss_one (ps_for PassesOwn.leaving rfl (k_en (K := K) rfl rfl nb.n_enumerate (pa_cons (pv 3) pa_nil)) (k_gtup (K := K) rfl rfl (pgs_cons (pg_name (i := 5) sc_check_state.nd rfl (Or.inl rfl)) (pgs_cons (pg_name (i := 6) sc_check_state.nd rfl (Or.inl rfl)) pgs_nil)))
      (pss_one (ps_if (pt_not (pt_val (pe_cl C_is_number hr (by decide) (fun σ => passAt (takes_of rfl rfl rfl rfl) σ) (pa_cons (pv 6) (pa_cons pe_int (pa_cons (pe_op op_subA (pe_op op_shlA pe_int (pv 0)) pe_int) pa_nil))))))
      (pss_one (ps_raiseE R_BadWords rfl hr (takes_of rfl rfl rfl rfl) (pa_cons (pv 5) pa_nil)))
      pss_nil)))))))))), ?_⟩)
  case bind =>
    obtain rfl : ks = ([] : List Str) := by simpa using hks
    · have hl2 : us.length = 4 := by simp only [List.length_append, List.length_cons, List.length_nil] at hl hlw; omega
      match us, hl2, ws, hlw with
      | [_, _, _, _], _, [], _ => rfl
  case len =>
    intro vs H Q E h
    obtain ⟨_, _, _, _, rfl, _⟩ := h
    rfl
  obtain ⟨x0, x1, x2, x3, rfl, h⟩ := h
  refine i_start [some x0, some x1, some x2, some x3, none, none, none] rfl ?_
  obtain ⟨dw, dc, dh, ds, hw, hc, hh, hs, h⟩ := h
  repeat walk_at "s"
  refine ⟨dw, hw, ?_⟩
  rcases h with ⟨e, h⟩ | ⟨W, m, rfl, wm, h⟩
  · exact .inr ⟨e, h⟩
  obtain ⟨i, e, rfl, _, _⟩ := inI_int (lo := W) (hi := W) hw (by simp [inI])
  cases e
  refine .inl ⟨by have := wm.le; simp [inI]; omega, ?_⟩
  have wle := wm.le
  repeat walk_at "s"
  refine i_shl1 (by omega) wm.p2 ?_
  repeat walk_at "s"
  refine ⟨dc, _, _, rfl, rfl, hc, ?_⟩
  repeat walk_at "s"
  rcases h with ⟨e, h⟩ | ⟨e1, h⟩
  · rw [e]
    repeat walk_at "s"
    exact thrown_1 h (.refl _)
  rw [e1]
  repeat walk_at "s"
  refine i_shl1 (by omega) wm.pw ?_
  repeat walk_at "s"
  refine ⟨dh, _, _, rfl, rfl, hh, ?_⟩
  repeat walk_at "s"
  rcases h with ⟨e, h⟩ | ⟨e2, h⟩
  · rw [e]
    repeat walk_at "s"
    exact thrown_1 h (.refl _)
  rw [e2]
  repeat walk_at "s"
  refine i_newT fun T H1 hT eT s1 => ?_
  repeat walk_at "s"
  refine i_isi2 eT (rp_ty (rp_same s1 hs)) (by simp) (by simp) ?_
  repeat walk_at "s"
  cases e3 : items ds with
  | none =>
    rw [show (isaD ds "list" || isaD ds "tuple") = false by cases ds <;> first | rfl | cases e3]
    repeat walk_at "s"
    rcases h with ⟨_, h⟩ | ⟨l, e4, _⟩
    · exact thrown_1 h s1
    · rw [e4] at e3
      cases e3
  | some l =>
    rw [show (isaD ds "list" || isaD ds "tuple") = true by cases ds <;> first | rfl | cases e3]
    repeat walk_at "s"
    obtain ⟨b, a, xs, rfl, h1, h2⟩ := rp_items (rp_same s1 hs) e3
    refine i_lenC (len_sk h1) ?_
    repeat walk_at "s"
    rcases h with ⟨e, h⟩ | ⟨l', e4, e5, h⟩
    · refine i_ifn (fun _ => ?_) (fun e5 => ?_)
      · repeat walk_at "s"
        exact thrown_1 h s1
      · exfalso
        unfold isRow at e
        rw [e3] at e
        rw [dpAll_len h2] at e5
        simp at e
        exact e (by exact_mod_cast e5)
    · rw [e3] at e4
      cases e4
      rw [dpAll_len h2, e5]
      refine i_ifn (fun e => absurd rfl e) (fun _ => ?_)
      repeat walk_at "s"
      refine ⟨b, a, xs, rfl, h1, for_G (fun i σ H' => (∃ u v, σ = [some (.int W), some x1, some x2, some (.ref a), some (.int m), u, v]) ∧ Same H1 H' ∧ ∀ k, FB 0 (2 ^ W - 1) l k → i ≤ k) ⟨⟨_, _, rfl⟩, .refl _, fun k _ => Nat.zero_le _⟩ (fun i σ H _ p => sk_same p.2.1 h1) ?_ ?_⟩
      · rintro i x σ H2 H3 hi ⟨⟨u, v, rfl⟩, s2, hk⟩ ⟨T, y, rfl, hT, rfl, hy⟩
        refine i_gtup (.inl (.inl upd_same)) rfl ?_
        have s3 := s2.trans (upd_new (o := .tup [.int (i : Nat), y]) hT)
        obtain ⟨dy, e3, h3⟩ := dpAll_get h2 hy
        repeat walk_at "s"
        refine i_shl1 (by omega) wm.pw ?_
        repeat walk_at "s"
        refine ⟨dy, _, _, rfl, rfl, rp_same s3 (rp_of h3), ?_⟩
        repeat walk_at "s"
        cases e4 : inI dy 0 (2 ^ W - 1) with
        | true =>
          repeat walk_at "s"
          exact ⟨⟨_, _, rfl⟩, s3, fb_next hk e3 e4⟩
        | false =>
          repeat walk_at "s"
          exact thrown_1 (h.bad_at hk e3 e4) (s1.trans s3)
      · rintro σ H2 ⟨⟨u, v, rfl⟩, s2, hk⟩
        repeat walk_at "s"
        exact h.good_end (fun k f => by rw [← dpAll_len h2]; exact hk k f) H2 (s1.trans s2)
def manyB (W m : Nat) : Nat := 2 * W - 2 + W * m
abbrev sp_manyb : Sp := S1 fun x H Q E => ∃ W m : Nat, x = .int W ∧ WM W m ∧ Q (.int (manyB W m)) H
theorem cl_many_bits (nb : Nb mg) (D_many_bits : DefAt K mg "_many_bits" st_many_bits)   : Cl P w K mg base 3 "_many_bits" ["width"] sp_manyb [[]] := by
  obtain ⟨f, fd, hm, F⟩ := D_many_bits
  refine cl_of (k := 2) hm F (fun kV doc pm an cdv ct ks hks us ws hl hlw => ?bind) sc_many_bits ?len (fun cdv A outer s H vs Q E hr h => ⟨_, (by exact (pss_one (ps_ret (pe_op (k_add (K := K) rfl) (pe_op (k_add (K := K) rfl) (pe_op op_subA (pv 0) pe_int) (pv 0)) (pe_op op_mulA (pv 0) (pe_op op_shlA pe_int (pe_op op_subA (pv 0) pe_int))))))), ?_⟩)
  case bind =>
    obtain rfl : ks = ([] : List Str) := by simpa using hks
    · have hl2 : us.length = 1 := by simp only [List.length_append, List.length_cons, List.length_nil] at hl hlw; omega
      match us, hl2, ws, hlw with
      | [_], _, [], _ => rfl
  case len =>
    intro vs H Q E h
    obtain ⟨_, rfl, _⟩ := h
    rfl
  obtain ⟨x0, rfl, h⟩ := h
  refine i_start [some x0] rfl ?_
  obtain ⟨W, m, rfl, wm, h⟩ := h
  have wle := wm.le
  repeat walk_at "s"
  refine i_shl1 (by omega) wm.p2 ?_
  refine i_mulI (by unfold CMul; omega) ?_
  repeat walk_at "s"
  rw [show ((W : Int) - 2 + W + W * m) = (manyB W m : Nat) by rcases wm with ⟨rfl, rfl⟩ | ⟨rfl, rfl⟩ <;> rfl]
  exact h
/-- one step -/
def stepF (m : Nat) (T : Int) (C G : Int) (ns : List Int) : Int × Int × List Int :=
  let x := ns.getD C.toNat 0
  if x / m = 3 ∧ G = 0 then (x % m, G, ns)
  else ((C + 1) % m, if x / m = 0 then ns.getD (x % m).toNat 0 else if x / m = 1 then (G + ns.getD (x % m).toNat 0) % T else G, if x / m = 2 then ns.set (x % m).toNat G else ns)
/-- a new tuple of two numbers and a new list -/
def StepOut (Q : VK) (H : Hp) (r : Int × Int × List Int) : Prop := ∀ t l H', H t = none → H l = none → t ≠ l → Same H H' → H' t = some (.tup [.int r.1, .int r.2.1, .ref l]) → H' l = some (.lst (vi r.2.2)) → Q (.ref t) H'
theorem none_of {H H1 : Hp} {p : Addr} (s : Same H H1) (h : H1 p = none) : H p = none := by
  cases e : H p with
  | none => rfl
  | some o => rw [s _ _ e] at h; cases h
theorem vi_set {ns : List Int} {k : Nat} {G : Int} : (vi ns).set k (.int G) = vi (ns.set k G) := by unfold vi; rw [List.map_set]
theorem StepOut.end {Q : VK} {H H1 H2 : Hp} {r : Int × Int × List Int} {t l : Addr} {a b : Int} {ns : List Int} (g : StepOut Q H r) (hl : H l = none) (s : Same H H1) (el : H1 l = some (.lst (vi ns))) (ht : H1 t = none) (e : H2 t = some (.tup [.int a, .int b, .ref l])) (s2 : Same H1 H2) (h : r = (a, b, ns)) : Q (.ref t) H2 := by
  subst h
  exact g t l H2 (none_of s ht) hl (by rintro rfl; rw [el] at ht; cases ht) (s.trans s2) e (s2 _ _ el)
abbrev sp_step (K : PySem.W.Frag) (C_IN C_BW : Addr) : Sp := S4 fun x0 x1 x2 x3 H Q E => ∃ dw dc dh ds, Rp K H x0 dw ∧ Rp K H x1 dc ∧ Rp K H x2 dh ∧ Rp K H x3 ds ∧ StateCk (ThN C_IN E H) (ThW C_BW E H) x0 x1 x2 dw dc dh ds (fun W m l => ∃ (C G : Int) (ns : List Int), dc = .int C ∧ dh = .int G ∧ l = ns.map .int ∧ StepOut Q H (stepF m (2 ^ W) C G ns))
theorem cl_plain_step (nb : Nb mg) (D_plain_step : DefAt K mg "plain_step" st_plain_step) (C_check_state : Cl P w K mg base 12 "_check_state" ["width", "counter", "hand", "cells"] (sp_cks K C_InvalidNumber C_BadWords) [[]])  : Cl P w K mg base 15 "plain_step" ["width", "counter", "hand", "cells"] (sp_step K C_InvalidNumber C_BadWords) [[], ["counter", "hand", "cells"]] := by
  obtain ⟨f, fd, hm, F⟩ := D_plain_step
  refine cl_of (k := 14) hm F (fun kV doc pm an cdv ct ks hks us ws hl hlw => ?bind) sc_plain_step ?len (fun cdv A outer s H vs Q E hr h => ⟨_, (by exact (pss_cons (ps_expr (pe_cl C_check_state hr (by decide) (fun σ => passAt (takes_of rfl rfl rfl rfl) σ) (pa_cons (pv 0) (pa_cons (pv 1) (pa_cons (pv 2) (pa_cons (pv 3) pa_nil))))))
      (pss_cons (ps_set (i := 4) sc_plain_step.nd rfl (Or.inl rfl) (pe_callB (k_len (K := K) rfl) (by rfl) nb.n_len (by decide +kernel) (pa_cons (pv 3) pa_nil)))
      (pss_cons (ps_set (i := 5) sc_plain_step.nd rfl (Or.inl rfl) (pe_callTy (k_list (K := K) rfl) (by rfl) nb.n_list (by decide +kernel) (pa_cons (pv 3) pa_nil)))
      (pss_cons (ps_set (i := 6) sc_plain_step.nd rfl (Or.inl rfl) (pe_op op_modA (pe_ix (k_ix (K := K) rfl) (pv 3) (pv 1) (fun _ _ => rfl)) (pv 4)))
      (pss_cons (ps_set (i := 7) sc_plain_step.nd rfl (Or.inl rfl) (pe_op op_shrA (pe_ix (k_ix (K := K) rfl) (pv 3) (pv 1) (fun _ _ => rfl)) (pe_op op_subA (pv 0) pe_int)))
      (pss_cons (ps_if (PW.pt (pw_and (pt_cmpR (k_eq (K := K) rfl hr.units) (pv 7) pe_int (nomark _)) (pw_and1 (pt_cmpR (k_eq (K := K) rfl hr.units) (pv 2) pe_int (nomark _)))))
      (pss_one (ps_ret (pe_tup (pa_cons (pv 6) (pa_cons (pv 2) (pa_cons (pv 5) pa_nil))))))
      pss_nil)
      (pss_cons (ps_if (pt_cmpR (k_eq (K := K) rfl hr.units) (pv 7) pe_int (nomark _))
      (pss_one (ps_set (i := 2) sc_plain_step.nd rfl (Or.inl rfl) (pe_ix (k_ix (K := K) rfl) (pv 3) (pv 6) (fun _ _ => rfl))))
      (pss_one (ps_if (pt_cmpR (k_eq (K := K) rfl hr.units) (pv 7) pe_int (nomark _))
      (pss_one (ps_set (i := 2) sc_plain_step.nd rfl (Or.inl rfl) (pe_op op_modA (pe_op (k_add (K := K) rfl) (pv 2) (pe_ix (k_ix (K := K) rfl) (pv 3) (pv 6) (fun _ _ => rfl))) (pe_op op_shlA pe_int (pv 0)))))
      (pss_one (ps_if (pt_cmpR (k_eq (K := K) rfl hr.units) (pv 7) pe_int (nomark _))
      (pss_one (ps_asg (pv 2) (pg_sub (pv 5) (pv 6) set_list)))
      pss_nil)))))
      (pss_one (ps_ret (pe_tup (pa_cons (pe_op op_modA (pe_op (k_add (K := K) rfl) (pv 1) pe_int) (pv 4)) (pa_cons (pv 2) (pa_cons (pv 5) pa_nil)))))))))))))), ?_⟩)
  case bind =>
    have hks2 : ks = ([] : List Str) ∨ ks = (["counter", "hand", "cells"] : List Str) := by simpa using hks
    rcases hks2 with rfl | rfl
    · have hl2 : us.length = 4 := by simp only [List.length_append, List.length_cons, List.length_nil] at hl hlw; omega
      match us, hl2, ws, hlw with
      | [_, _, _, _], _, [], _ => rfl
    · have hl2 : us.length = 1 := by simp only [List.length_append, List.length_cons, List.length_nil] at hl hlw; omega
      match us, hl2, ws, hlw with
      | [_], _, [_, _, _], _ => rfl
  case len =>
    intro vs H Q E h
    obtain ⟨_, _, _, _, rfl, _⟩ := h
    rfl
  obtain ⟨x0, x1, x2, x3, rfl, h⟩ := h
  refine i_start [some x0, some x1, some x2, some x3, none, none, none, none] rfl ?_
  obtain ⟨dw, dc, dh, ds, hw, hc, hh, hs, h⟩ := h
  repeat walk_at "s"
  refine ⟨dw, dc, dh, ds, hw, hc, hh, hs, h.imp (fun _ z => z) (fun _ z => z) fun W m l e wm e1 e2 e3 e4 ag g H1 s1 => ?_⟩
  obtain ⟨C, G, ns, rfl, rfl, rfl, g⟩ := g
  subst e
  obtain ⟨i, z, rfl, _, _⟩ := inI_int (lo := W) (hi := W) hw (by simp [inI])
  cases z
  obtain ⟨i, z, rfl, c0, c1⟩ := inI_int hc e1
  cases z
  obtain ⟨i, z, rfl, g0, g1⟩ := inI_int hh e2
  cases z
  rw [List.length_map] at e4
  obtain ⟨b, a, xs, rfl, h1, h2⟩ := rp_items (rp_same s1 hs) e3
  obtain rfl := dpAll_vi h2
  have wle := wm.le
  repeat walk_at "s"
  refine i_lenC (len_sk h1) ?_
  rw [vi_len, e4]
  repeat walk_at "s"
  refine i_listC h1 fun p H2 hp ep s2 => ?_
  repeat walk_at "s"
  have h12 := sk_same s2 h1
  have hC : C < ns.length := by omega
  refine i_ixS h12 (atI_vi c0 hC) ?_
  repeat walk_at "s"
  refine i_mod (by omega) ?_
  repeat walk_at "s"
  refine i_ixS h12 (atI_vi c0 hC) ?_
  repeat walk_at "s"
  refine i_shr (by omega) ?_
  rw [wm.p2]
  generalize hx : ns.getD C.toNat 0 = x at g ⊢
  have m0 : (0 : Int) < m := by omega
  have a0 := Int.emod_nonneg x (Int.ne_of_gt m0)
  have a1 := Int.emod_lt_of_pos x m0
  repeat walk_at "s"
  have s12 := s1.trans s2
  have hp0 : H p = none := none_of s1 hp
  have stepE : stepF m (2 ^ W) C G ns = if x / m = 3 ∧ G = 0 then (x % m, G, ns)
    else ((C + 1) % m, if x / m = 0 then ns.getD (x % m).toNat 0 else if x / m = 1 then (G + ns.getD (x % m).toNat 0) % 2 ^ W else G, if x / m = 2 then ns.set (x % m).toNat G else ns) := by
    unfold stepF
    rw [hx]
  refine i_if (fun d3 => ?_) (fun d3 => ?_)
  · repeat walk_at "s"
    refine i_if (fun z => ?_) (fun z => ?_)
    · repeat walk_at "s"
      refine i_newT fun t H3 ht et s3 => ?_
      repeat walk_at "s"
      exact g.end hp0 s12 ep ht et s3 (by rw [stepE, if_pos ⟨d3, z⟩])
    · repeat walk_at "s"
      refine i_if (fun d0 => absurd (d0.symm.trans d3) (by decide)) (fun d0 => ?_)
      repeat walk_at "s"
      refine i_if (fun d0 => absurd (d0.symm.trans d3) (by decide)) (fun d1 => ?_)
      repeat walk_at "s"
      refine i_if (fun d0 => absurd (d0.symm.trans d3) (by decide)) (fun d2 => ?_)
      repeat walk_at "s"
      refine i_mod m0 ?_
      repeat walk_at "s"
      refine i_newT fun t H3 ht et s3 => ?_
      repeat walk_at "s"
      exact g.end hp0 s12 ep ht et s3 (by rw [stepE, if_neg (fun q => z q.2), if_neg d0, if_neg d1, if_neg d2])
  · have d3' : ¬ (x / m = 3 ∧ G = 0) := fun q => d3 q.1
    repeat walk_at "s"
    refine i_if (fun d0 => ?_) (fun d0 => ?_)
    · repeat walk_at "s"
      refine i_ixS h12 (atI_vi a0 (by omega)) ?_
      repeat walk_at "s"
      refine i_mod m0 ?_
      repeat walk_at "s"
      refine i_newT fun t H3 ht et s3 => ?_
      repeat walk_at "s"
      exact g.end hp0 s12 ep ht et s3 (by rw [stepE, if_neg d3', if_pos d0, if_neg (by omega)])
    repeat walk_at "s"
    refine i_if (fun d1 => ?_) (fun d1 => ?_)
    · repeat walk_at "s"
      refine i_ixS h12 (atI_vi a0 (by omega)) ?_
      repeat walk_at "s"
      refine i_shl1 (by omega) wm.pw ?_
      refine i_mod (Int.pow_pos (by decide)) ?_
      repeat walk_at "s"
      refine i_mod m0 ?_
      repeat walk_at "s"
      refine i_newT fun t H3 ht et s3 => ?_
      repeat walk_at "s"
      exact g.end hp0 s12 ep ht et s3 (by rw [stepE, if_neg d3', if_neg d0, if_pos d1, if_neg (by omega)])
    repeat walk_at "s"
    refine i_if (fun d2 => ?_) (fun d2 => ?_)
    · repeat walk_at "s"
      refine i_setL ep (ixN_ok a0 (by rw [vi_len]; omega)) ?_
      repeat walk_at "s"
      refine i_mod m0 ?_
      repeat walk_at "s"
      refine i_newT fun t H3 ht et s3 => ?_
      repeat walk_at "s"
      refine g.end hp0 (upd_at s12 hp0) (by rw [upd_same, vi_set]) ht et s3 (by rw [stepE, if_neg d3', if_neg d0, if_neg d1, if_pos d2])
    · repeat walk_at "s"
      refine i_mod m0 ?_
      repeat walk_at "s"
      refine i_newT fun t H3 ht et s3 => ?_
      repeat walk_at "s"
      exact g.end hp0 s12 ep ht et s3 (by rw [stepE, if_neg d3', if_neg d0, if_neg d1, if_neg d2])
end
end T

set_option Elab.async false
set_option linter.all false
set_option maxRecDepth 100000
set_option maxHeartbeats 4000000
/-! k62, part D: the machine's states as bits. -/
namespace T
open PySem PySem.Spec PyProof.Rows L2 VI VC VG VD VE VF VH VL
theorem sc_state_bits : FnScope ["width", "counter", "hand", "cells"] ["width", "counter", "hand", "cells"] (defScope st_state_bits) := ⟨rfl, rfl, rfl, by decide +kernel, rfl, by decide +kernel, by decide +kernel⟩
theorem sc_state_of : FnScope ["width", "bits", "counter", "words"] ["width", "bits"] (defScope st_state_of) := ⟨rfl, rfl, rfl, by decide +kernel, rfl, by decide +kernel, by decide +kernel⟩
set_option hygiene false in
local macro_rules | `(tactic| walk_at "s") => `(tactic| with_reducible first | refine i_seq ?_ | refine i_asg ?_ | refine i_ret ?_ | refine i_drop ?_ | refine i_next ?_ | refine i_nx ?_ | refine i_rt ?_ | refine i_ct ?_ | refine i_bk ?_ | refine i_op ?_ | refine i_un ?_ | refine i_cons ?_ | refine i_nil ?_ | refine i_cb ?_ | refine i_calls ?_ | refine i_c ?_ | refine i_ifs ?_ | refine i_ife ?_ | refine i_test ?_ | refine i_tb ?_ | refine i_bl ?_ | refine i_and ?_ | refine i_or ?_ | refine i_not ?_ | refine i_andv ?_ | refine i_orv ?_ | refine i_notv ?_ | refine i_chain ?_ | refine i_addI ?_ | refine i_sub ?_ | refine i_neg ?_ | refine i_eqI ?_ | refine i_eqS ?_ | refine i_neI ?_ | refine i_neS ?_ | refine i_lt ?_ | refine i_le ?_ | refine i_gt ?_ | refine i_ge ?_ | refine i_isN ?_ | refine i_notN ?_ | refine i_gnil ?_ | refine i_gcons ?_ | refine i_gsub ?_ | refine i_par ?_ | refine i_par3 ?_ | refine i_two ?_ | refine i_three ?_ | refine i_slice ?_ | refine i_nopart ?_ | refine i_part ?_ | refine i_ip ?_ | refine i_yes ?_ | refine i_iftrue ?_ | refine i_ifnt ?_ | refine i_ifnf ?_ | refine i_iffalse ?_ | refine i_S1 ?_ | refine i_S2 ?_ | refine i_S3 ?_ | refine i_S4 ?_ | refine i_S5 ?_ | refine i_intC ?_ | refine i_tupN ?_ | refine i_lstN ?_ | refine i_raise ?_ | refine i_for ?_ | refine i_lc ?_ | refine i_rg1 ?_ | refine i_rg2 ?_ | refine i_rg3 ?_ | refine i_sq ?_ | refine i_en ?_ | refine i_rv ?_ | refine i_callks ?_ | refine i_star ?_ | refine i_lc2 ?_ | walk_at "v")
set_option hygiene false in
local macro_rules | `(tactic| walk_at "v") => `(tactic| with_reducible first | refine i_v0 ?_ | refine i_v1 ?_ | refine i_v2 ?_ | refine i_v3 ?_ | refine i_v4 ?_ | refine i_v5 ?_ | refine i_v6 ?_ | refine i_v7 ?_ | refine i_v8 ?_ | refine i_v9 ?_ | refine i_v10 ?_ | refine i_v11 ?_ | refine i_v12 ?_ | refine i_v13 ?_ | refine i_v14 ?_ | refine i_v15 ?_ | refine i_v16 ?_ | refine i_v17 ?_ | refine i_v18 ?_ | refine i_v19 ?_ | refine i_v20 ?_ | refine i_v21 ?_ | refine i_v22 ?_ | refine i_v23 ?_ | refine i_v24 ?_ | refine i_v25 ?_ | refine i_v26 ?_ | refine i_v27 ?_ | refine i_v28 ?_ | refine i_v29 ?_ | refine i_n0 ?_ | refine i_n1 ?_ | refine i_n2 ?_ | refine i_n3 ?_ | refine i_n4 ?_ | refine i_n5 ?_ | refine i_n6 ?_ | refine i_n7 ?_ | refine i_n8 ?_ | refine i_n9 ?_ | refine i_n10 ?_ | refine i_n11 ?_ | refine i_n12 ?_ | refine i_n13 ?_ | refine i_n14 ?_ | refine i_n15 ?_ | refine i_n16 ?_ | refine i_n17 ?_ | refine i_n18 ?_ | refine i_n19 ?_ | refine i_n20 ?_ | refine i_n21 ?_ | refine i_n22 ?_ | refine i_n23 ?_ | refine i_n24 ?_ | refine i_n25 ?_ | refine i_n26 ?_ | refine i_n27 ?_ | refine i_n28 ?_ | refine i_n29 ?_)
def stateBits (W : Nat) (C G : Int) (ns : List Int) : List Int := bitsAll [C] (W - 2) ++ bitsAll (G :: ns) W
theorem bitsAll_len (ns : List Int) (W : Nat) : (bitsAll ns W).length = ns.length * W := by
  induction ns with
  | nil => simp [bitsAll]
  | cons n ns ih =>
    have : bitsAll (n :: ns) W = bitsL n W ++ bitsAll ns W := rfl
    rw [this, List.length_append, ih, bitsL_len, List.length_cons, Nat.succ_mul, Nat.add_comm]
theorem vi_app (a b : List Int) : vi a ++ vi b = vi (a ++ b) := by simp [vi]
def stateF (W m : Nat) (ns : List Int) : Int × Int × List Int := ((wordsL (ns.take (W - 2)) (W - 2) 1).getD 0 0, (wordsL (ns.drop (W - 2)) W (m + 1)).getD 0 0, (wordsL (ns.drop (W - 2)) W (m + 1)).drop 1)
section
variable {P : Program} {w : World} {K : PySem.W.Frag} {mg : Str → Option Value} {base : Heap} {C_InvalidNumber C_BadBits C_BadWords : Addr}
abbrev sp_sbits (K : PySem.W.Frag) (C_IN C_BW : Addr) : Sp := S4 fun x0 x1 x2 x3 H Q E => ∃ dw dc dh ds, Rp K H x0 dw ∧ Rp K H x1 dc ∧ Rp K H x2 dh ∧ Rp K H x3 ds ∧ StateCk (ThN C_IN E H) (ThW C_BW E H) x0 x1 x2 dw dc dh ds (fun W m l => ∃ (C G : Int) (ns : List Int), dc = .int C ∧ dh = .int G ∧ l = ns.map .int ∧ NewLst (vi (stateBits W C G ns)) Q H)
theorem cl_state_bits (nb : Nb mg) (D_state_bits : DefAt K mg "state_bits" st_state_bits) (C_bits_of : Cl P w K mg base 9 "bits_of" ["words", "width"] (sp_bitsof K) [["width"]]) (C_check_state : Cl P w K mg base 12 "_check_state" ["width", "counter", "hand", "cells"] (sp_cks K C_InvalidNumber C_BadWords) [[]])  : Cl P w K mg base 15 "state_bits" ["width", "counter", "hand", "cells"] (sp_sbits K C_InvalidNumber C_BadWords) [[]] := by
  obtain ⟨f, fd, hm, F⟩ := D_state_bits
  refine cl_of (k := 14) hm F (fun kV doc pm an cdv ct ks hks us ws hl hlw => ?bind) sc_state_bits ?len (fun cdv A outer s H vs Q E hr h => ⟨_, (by exact (pss_cons (ps_expr (pe_cl C_check_state hr (by decide) (fun σ => passAt (takes_of rfl rfl rfl rfl) σ) (pa_cons (pv 0) (pa_cons (pv 1) (pa_cons (pv 2) (pa_cons (pv 3) pa_nil))))))
      (pss_one (ps_ret (pe_op (k_add (K := K) rfl) (pe_clK ["width"] C_bits_of hr (by decide) (fun σ => passAt (takes_of rfl rfl rfl rfl) σ) (pa_cons (pe_lst (pa_cons (pv 1) pa_nil)) pa_nil) (pk_cons (pe_op op_subA (pv 0) pe_int) pk_nil)) (pe_clK ["width"] C_bits_of hr (by decide) (fun σ => passAt (takes_of rfl rfl rfl rfl) σ) (pa_cons (pe_lst (pa_cons (pv 2) (k_star (K := K) rfl (pv 3) pa_nil))) pa_nil) (pk_cons (pv 0) pk_nil))))))), ?_⟩)
  case bind =>
    obtain rfl : ks = ([] : List Str) := by simpa using hks
    · have hl2 : us.length = 4 := by simp only [List.length_append, List.length_cons, List.length_nil] at hl hlw; omega
      match us, hl2, ws, hlw with
      | [_, _, _, _], _, [], _ => rfl
  case len =>
    intro vs H Q E h
    obtain ⟨_, _, _, _, rfl, _⟩ := h
    rfl
  obtain ⟨x0, x1, x2, x3, rfl, h⟩ := h
  refine i_start [some x0, some x1, some x2, some x3] rfl ?_
  obtain ⟨dw, dc, dh, ds, hw, hc, hh, hs, h⟩ := h
  repeat walk_at "s"
  refine ⟨dw, dc, dh, ds, hw, hc, hh, hs, h.imp (fun _ z => z) (fun _ z => z) fun W m l e wm e1 e2 e3 e4 ag g H1 s1 => ?_⟩
  obtain ⟨C, G, ns, rfl, rfl, rfl, g⟩ := g
  subst e
  obtain ⟨i, z, rfl, _, _⟩ := inI_int (lo := W) (hi := W) hw (by simp [inI])
  cases z
  obtain ⟨i, z, rfl, c0, c1⟩ := inI_int hc e1
  cases z
  obtain ⟨i, z, rfl, g0, g1⟩ := inI_int hh e2
  cases z
  rw [List.length_map] at e4
  obtain ⟨b, a, xs, rfl, h1, h2⟩ := rp_items (rp_same s1 hs) e3
  obtain rfl := dpAll_vi h2
  have wle := wm.le
  repeat walk_at "s"
  refine i_newL fun p H2 hp ep s2 => ?_
  repeat walk_at "s"
  refine i_kS rfl rfl ?_
  have hc2 : (2 : Int) ^ (W - 2) = m := by rcases wm with ⟨rfl, rfl⟩ | ⟨rfl, rfl⟩ <;> decide
  refine i_S2 ⟨true, p, [C], W - 2, rfl, by rw [show ((W : Int) - 2) = ((W - 2 : Nat) : Int) by omega], sk_lst ep, by omega, by omega, ?_, by simp, fun p2 H3 hp2 ep2 s3 => ?_⟩
  · intro n hn
    obtain rfl : n = C := by simpa using hn
    rw [hc2]
    exact ⟨c0, c1⟩
  have s13 := s2.trans s3
  repeat walk_at "s"
  refine i_starS (sk_same s13 h1) ?_
  repeat walk_at "s"
  refine i_newL (fun p3 H4 hp3 ep3 s4 => ?_) (by rw [List.append_nil, List.length_cons, vi_len]; exact sz (by omega))
  repeat walk_at "s"
  refine i_kS rfl rfl ?_
  refine i_S2 ⟨true, p3, G :: ns, W, rfl, rfl, sk_lst (by rw [List.append_nil] at ep3; exact ep3), by omega, by omega, ?_, by rw [List.length_cons]; omega, fun p5 H5 hp5 ep5 s5 => ?_⟩
  · obtain ⟨ns', e5, hn⟩ := ag_all ag
    obtain rfl : ns = ns' := by
      have : ∀ a b : List Int, a.map PyData.int = b.map PyData.int → a = b := fun a b => by
        intro h
        induction a generalizing b with
        | nil => cases b <;> simp at h ⊢
        | cons x a ih =>
          cases b with
          | nil => simp at h
          | cons y b => simp at h; rw [h.1, ih b h.2]
      exact this _ _ e5
    intro n hn'
    rcases List.mem_cons.mp hn' with rfl | hn'
    · exact ⟨g0, g1⟩
    · exact hn n hn'
  repeat walk_at "s"
  refine i_addLN (s5 _ _ (s4 _ _ ep2)) ep5 (by rw [vi_len, vi_len, bitsAll_len, bitsAll_len]; exact sz (by rcases wm with ⟨rfl, rfl⟩ | ⟨rfl, rfl⟩ <;> simp [e4])) fun p6 H6 hp6 ep6 s6 => ?_
  have s16 := ((s1.trans s13).trans s4).trans s5
  exact g p6 H6 (none_of s16 hp6) (by rw [ep6, vi_app]; rfl) (s16.trans s6)
/-- what a check of a row of bits comes to -/
def BitsCk (numB : V → Prop) (bitB : Int → Prop) (x0 : V) (dw db : PyData) (good : Nat → Nat → List PyData → Prop) : Prop :=
  (inI dw 3 4 = false ∧ numB x0) ∨ ∃ W m : Nat, dw = .int W ∧ WM W m ∧ ((isRow db (manyB W m : Nat) = false ∧ bitB (-1)) ∨ ∃ l, items db = some l ∧ l.length = manyB W m ∧ Ck 0 1 l (good W m l) fun k => bitB k)
theorem BitsCk.imp {numB numB' : V → Prop} {bitB bitB' : Int → Prop} {x0 : V} {dw db : PyData} {good good' : Nat → Nat → List PyData → Prop} (h : BitsCk numB bitB x0 dw db good) (fn : ∀ v, numB v → numB' v) (fw : ∀ i, bitB i → bitB' i)
    (f : ∀ (W m : Nat) (l : List PyData), dw = .int W → WM W m → items db = some l → l.length = manyB W m → AG 0 1 l → good W m l → good' W m l) : BitsCk numB' bitB' x0 dw db good' := by
  rcases h with ⟨e, h⟩ | ⟨W, m, e, wm, h⟩
  · exact .inl ⟨e, fn _ h⟩
  refine .inr ⟨W, m, e, wm, ?_⟩
  rcases h with ⟨e1, h⟩ | ⟨l, e3, e4, h⟩
  · exact .inl ⟨e1, fw _ h⟩
  refine .inr ⟨l, e3, e4, ?_⟩
  rcases h with ⟨a, g⟩ | ⟨k, a, g⟩
  · exact .inl ⟨a, f W m l e wm e3 e4 a g⟩
  · exact .inr ⟨k, a, fw _ g⟩
abbrev sp_sof (K : PySem.W.Frag) (C_IN C_BB : Addr) : Sp := S2 fun x0 x1 H Q E => ∃ dw db, Rp K H x0 dw ∧ Rp K H x1 db ∧ BitsCk (ThN C_IN E H) (ThB C_BB E H) x0 dw db (fun W m l => ∃ ns : List Int, l = ns.map .int ∧ StepOut Q H (stateF W m ns))
theorem cl_state_of (nb : Nb mg) (D_state_of : DefAt K mg "state_of" st_state_of) (C_check_bits : Cl P w K mg base 12 "check_bits" ["value", "many"] (sp_ckbits K C_BadBits) [[]]) (C_words_of : Cl P w K mg base 15 "words_of" ["bits", "width"] (sp_wordsof K) [["width"]]) (C_check_width : Cl P w K mg base 9 "_check_width" ["width"] (sp_ckw K C_InvalidNumber) [[]]) (C_many_bits : Cl P w K mg base 3 "_many_bits" ["width"] sp_manyb [[]])  : Cl P w K mg base 18 "state_of" ["width", "bits"] (sp_sof K C_InvalidNumber C_BadBits) [[]] := by
  obtain ⟨f, fd, hm, F⟩ := D_state_of
  refine cl_of (k := 17) hm F (fun kV doc pm an cdv ct ks hks us ws hl hlw => ?bind) sc_state_of ?len (fun cdv A outer s H vs Q E hr h => ⟨_, (by exact (pss_cons (ps_expr (pe_cl C_check_width hr (by decide) (fun σ => passAt (takes_of rfl rfl rfl rfl) σ) (pa_cons (pv 0) pa_nil)))
      (pss_cons (ps_expr (pe_cl C_check_bits hr (by decide) (fun σ => passAt (takes_of rfl rfl rfl rfl) σ) (pa_cons (pv 1) (pa_cons (pe_cl C_many_bits hr (by decide) (fun σ => passAt (takes_of rfl rfl rfl rfl) σ) (pa_cons (pv 0) pa_nil)) pa_nil))))
      (pss_cons (ps_set (i := 2) sc_state_of.nd rfl (Or.inl rfl) (pe_clK ["width"] C_words_of hr (by decide) (fun σ => passAt (takes_of rfl rfl rfl rfl) σ) (pa_cons (k_sl (K := K) rfl (pv 1) po_none (po_some (pe_op op_subA (pv 0) pe_int))) pa_nil) (pk_cons (pe_op op_subA (pv 0) pe_int) pk_nil)))
      (pss_cons (ps_set (i := 3) sc_state_of.nd rfl (Or.inl rfl) (pe_clK ["width"] C_words_of hr (by decide) (fun σ => passAt (takes_of rfl rfl rfl rfl) σ) (pa_cons (k_sl (K := K) rfl (pv 1) (po_some (pe_op op_subA (pv 0) pe_int)) po_none) pa_nil) (pk_cons (pv 0) pk_nil)))
      (pss_one (ps_ret (pe_tup (pa_cons (pe_ix (k_ix (K := K) rfl) (pv 2) pe_int (fun _ _ => rfl)) (pa_cons (pe_ix (k_ix (K := K) rfl) (pv 3) pe_int (fun _ _ => rfl)) (pa_cons (k_sl (K := K) rfl (pv 3) (po_some pe_int) po_none) pa_nil))))))))))), ?_⟩)
  case bind =>
    obtain rfl : ks = ([] : List Str) := by simpa using hks
    · have hl2 : us.length = 2 := by simp only [List.length_append, List.length_cons, List.length_nil] at hl hlw; omega
      match us, hl2, ws, hlw with
      | [_, _], _, [], _ => rfl
  case len =>
    intro vs H Q E h
    obtain ⟨_, _, rfl, _⟩ := h
    rfl
  obtain ⟨x0, x1, rfl, h⟩ := h
  refine i_start [some x0, some x1, none, none] rfl ?_
  obtain ⟨dw, db, hw, hb, h⟩ := h
  repeat walk_at "s"
  refine ⟨dw, hw, ?_⟩
  rcases h with ⟨e, h⟩ | ⟨W, m, rfl, wm, h⟩
  · exact .inr ⟨e, h⟩
  obtain ⟨i, z, rfl, _, _⟩ := inI_int (lo := W) (hi := W) hw (by simp [inI])
  cases z
  have wle := wm.le
  refine .inl ⟨by simp [inI]; omega, ?_⟩
  repeat walk_at "s"
  refine ⟨W, m, rfl, wm, ?_⟩
  repeat walk_at "s"
  refine ⟨db, _, rfl, hb, ?_⟩
  rcases h with h | ⟨l, e3, e4, h⟩
  · exact .inl h
  refine .inr ⟨l, e3, by rw [e4], ?_⟩
  rcases h with ⟨ag, ns, rfl, g⟩ | h
  rotate_left
  · exact .inr h
  refine .inl ⟨ag, fun H1 s1 => ?_⟩
  obtain ⟨b, a, xs, rfl, h1, h2⟩ := rp_items (rp_same s1 hb) e3
  obtain rfl := dpAll_vi h2
  rw [List.length_map] at e4
  have hn : ∀ n ∈ ns, 0 ≤ n ∧ n ≤ 1 := by
    intro n hn
    obtain ⟨j, hj⟩ := List.mem_iff_getElem?.mp hn
    have := ag j (.int n) (by rw [List.getElem?_map, hj]; rfl)
    simpa [inI] using this
  have hmb : manyB W m = (W - 2) + (m + 1) * W := by rcases wm with ⟨rfl, rfl⟩ | ⟨rfl, rfl⟩ <;> rfl
  have hW2 : ((W : Int) - 2) = ((W - 2 : Nat) : Int) := by omega
  have hle : W - 2 ≤ ns.length := by rw [e4, hmb]; omega
  have rg1 : RgC 0 ((W - 2 : Nat) : Int) ((W - 2 : Nat) : Int) 1 := by rcases wm with ⟨rfl, rfl⟩ | ⟨rfl, rfl⟩ <;> exact ⟨by decide, by decide, by decide +kernel, by decide +kernel⟩
  have rg2 : RgC 0 (((m + 1) * W : Nat) : Int) (W : Int) (m + 1) := by rcases wm with ⟨rfl, rfl⟩ | ⟨rfl, rfl⟩ <;> exact ⟨by decide, by decide, by decide +kernel, by decide +kernel⟩
  repeat walk_at "s"
  refine i_slS h1 fun p H2 s2 hp => ?_
  rw [vi_to hle hW2] at hp
  repeat walk_at "s"
  refine i_kS rfl rfl ?_
  refine i_S2 ⟨b, p, _, W - 2, 1, rfl, by rw [hW2], hp, by omega, by omega, by rw [List.length_take]; omega, by omega, by rw [List.length_take, Nat.min_eq_left hle]; exact rg1, fun n h => hn n (List.mem_of_mem_take h), fun p3 H3 hp3 ep3 s3 => ?_⟩
  repeat walk_at "s"
  refine i_slS (sk_same (s2.trans s3) h1) fun p4 H4 s4 hp4 => ?_
  rw [vi_from hle hW2] at hp4
  repeat walk_at "s"
  refine i_kS rfl rfl ?_
  have hdl : (ns.drop (W - 2)).length = (m + 1) * W := by rw [List.length_drop, e4, hmb]; omega
  refine i_S2 ⟨b, p4, _, W, m + 1, rfl, rfl, hp4, by omega, by omega, hdl, by omega, by rw [hdl]; exact rg2, fun n h => hn n (List.mem_of_mem_drop h), fun p5 H5 hp5 ep5 s5 => ?_⟩
  have s35 := s4.trans s5
  repeat walk_at "s"
  refine i_ixS (sk_lst (s35 _ _ ep3)) (atI_vi (by omega) (by rw [wordsL_len]; decide)) ?_
  repeat walk_at "s"
  refine i_ixS (sk_lst ep5) (atI_vi (by omega) (by rw [wordsL_len]; omega)) ?_
  repeat walk_at "s"
  refine i_slLN (sk_lst ep5) fun p6 H6 hp6 ep6 s6 => ?_
  rw [vi_from (a := 1) (x := 1) (by rw [wordsL_len]; omega) rfl] at ep6
  repeat walk_at "s"
  refine i_newT fun t H7 ht et s7 => ?_
  repeat walk_at "s"
  have s15 := (((s1.trans s2).trans s3).trans s35)
  exact g.end (none_of s15 hp6) (s15.trans s6) ep6 ht et s7 rfl
end
end T

set_option Elab.async false
set_option linter.all false
set_option maxRecDepth 100000
set_option maxHeartbeats 4000000
/-! k62, part E: the law's own small defs. -/
namespace T
open PySem PySem.Spec PyProof.Rows L2 VI VC VG VD VE VF VH VL VM
theorem sc_law_start : FnScope ["_law_script", "_law_mixed", "_law_cell"] ["_law_script"] (defScope st_law_start) := ⟨rfl, rfl, rfl, by decide +kernel, rfl, by decide +kernel, by decide +kernel⟩
theorem sc_law_draw : FnScope ["_law_bag", "_law_many", "_law_seed", "_law_cell", "_law_digit"] ["_law_bag", "_law_many"] (defScope st_law_draw) := ⟨rfl, rfl, rfl, by decide +kernel, rfl, by decide +kernel, by decide +kernel⟩
set_option hygiene false in
local macro_rules | `(tactic| walk_at "s") => `(tactic| with_reducible first | refine i_seq ?_ | refine i_asg ?_ | refine i_ret ?_ | refine i_drop ?_ | refine i_next ?_ | refine i_nx ?_ | refine i_rt ?_ | refine i_ct ?_ | refine i_bk ?_ | refine i_op ?_ | refine i_un ?_ | refine i_cons ?_ | refine i_nil ?_ | refine i_cb ?_ | refine i_calls ?_ | refine i_c ?_ | refine i_ifs ?_ | refine i_ife ?_ | refine i_test ?_ | refine i_tb ?_ | refine i_bl ?_ | refine i_and ?_ | refine i_or ?_ | refine i_not ?_ | refine i_andv ?_ | refine i_orv ?_ | refine i_notv ?_ | refine i_chain ?_ | refine i_addI ?_ | refine i_sub ?_ | refine i_neg ?_ | refine i_eqI ?_ | refine i_eqS ?_ | refine i_neI ?_ | refine i_neS ?_ | refine i_lt ?_ | refine i_le ?_ | refine i_gt ?_ | refine i_ge ?_ | refine i_isN ?_ | refine i_notN ?_ | refine i_gnil ?_ | refine i_gcons ?_ | refine i_gsub ?_ | refine i_par ?_ | refine i_par3 ?_ | refine i_two ?_ | refine i_three ?_ | refine i_slice ?_ | refine i_nopart ?_ | refine i_part ?_ | refine i_ip ?_ | refine i_yes ?_ | refine i_iftrue ?_ | refine i_ifnt ?_ | refine i_ifnf ?_ | refine i_iffalse ?_ | refine i_S1 ?_ | refine i_S2 ?_ | refine i_S3 ?_ | refine i_S4 ?_ | refine i_S5 ?_ | refine i_intC ?_ | refine i_tupN ?_ | refine i_lstN ?_ | refine i_raise ?_ | refine i_for ?_ | refine i_lc ?_ | refine i_rg1 ?_ | refine i_rg2 ?_ | refine i_rg3 ?_ | refine i_sq ?_ | refine i_en ?_ | refine i_rv ?_ | refine i_callks ?_ | refine i_star ?_ | refine i_lc2 ?_ | walk_at "v")
set_option hygiene false in
local macro_rules | `(tactic| walk_at "v") => `(tactic| with_reducible first | refine i_v0 ?_ | refine i_v1 ?_ | refine i_v2 ?_ | refine i_v3 ?_ | refine i_v4 ?_ | refine i_v5 ?_ | refine i_v6 ?_ | refine i_v7 ?_ | refine i_v8 ?_ | refine i_v9 ?_ | refine i_v10 ?_ | refine i_v11 ?_ | refine i_v12 ?_ | refine i_v13 ?_ | refine i_v14 ?_ | refine i_v15 ?_ | refine i_v16 ?_ | refine i_v17 ?_ | refine i_v18 ?_ | refine i_v19 ?_ | refine i_v20 ?_ | refine i_v21 ?_ | refine i_v22 ?_ | refine i_v23 ?_ | refine i_v24 ?_ | refine i_v25 ?_ | refine i_v26 ?_ | refine i_v27 ?_ | refine i_v28 ?_ | refine i_v29 ?_ | refine i_n0 ?_ | refine i_n1 ?_ | refine i_n2 ?_ | refine i_n3 ?_ | refine i_n4 ?_ | refine i_n5 ?_ | refine i_n6 ?_ | refine i_n7 ?_ | refine i_n8 ?_ | refine i_n9 ?_ | refine i_n10 ?_ | refine i_n11 ?_ | refine i_n12 ?_ | refine i_n13 ?_ | refine i_n14 ?_ | refine i_n15 ?_ | refine i_n16 ?_ | refine i_n17 ?_ | refine i_n18 ?_ | refine i_n19 ?_ | refine i_n20 ?_ | refine i_n21 ?_ | refine i_n22 ?_ | refine i_n23 ?_ | refine i_n24 ?_ | refine i_n25 ?_ | refine i_n26 ?_ | refine i_n27 ?_ | refine i_n28 ?_ | refine i_n29 ?_)
def Bg (H : Hp) (b : Addr) (ns : List Int) (L : Addr) (i c s k : Int) : Prop := H b = some (.lst [.ref L, .int i, .int c, .int s, .int k]) ∧ H L = some (.lst (vi ns)) ∧ L ≠ b ∧ 0 ≤ i ∧ i ≤ ns.length ∧ ns.length ≤ 63 ∧ 0 ≤ c ∧ 0 ≤ s ∧ s < 2 ^ 31
def Bag (H : Hp) (b L : Addr) : Prop := ∃ ns i c s k, Bg H b ns L i c s k
theorem ix5 {a b c d e : V} {i : Int} (h0 : 0 ≤ i) (h1 : i < 5) : ixN [a, b, c, d, e].length i = some i.toNat := ixN_ok h0 h1
theorem at0 {a : V} {r : List V} : atI (a :: r) 0 = some a := atI_nat (j := 0) rfl
theorem at1 {a b : V} {r : List V} : atI (a :: b :: r) 1 = some b := atI_nat (j := 1) rfl
theorem at2 {a b c : V} {r : List V} : atI (a :: b :: c :: r) 2 = some c := atI_nat (j := 2) rfl
theorem at3 {a b c d : V} {r : List V} : atI (a :: b :: c :: d :: r) 3 = some d := atI_nat (j := 3) rfl
theorem at4 {a b c d e : V} {r : List V} : atI (a :: b :: c :: d :: e :: r) 4 = some e := atI_nat (j := 4) rfl
theorem Bag.ne {H : Hp} {b L p : Addr} (h : Bag H b L) (e : H p = none) : p ≠ b := by
  rintro rfl
  obtain ⟨ns, i, c, s, k, h, _⟩ := h
  rw [h] at e
  cases e
theorem Bag.neL {H : Hp} {b L p : Addr} (h : Bag H b L) (e : H p = none) : p ≠ L := by
  rintro rfl
  obtain ⟨ns, i, c, s, k, _, h, _⟩ := h
  rw [h] at e
  cases e
theorem Bag.same {H H1 : Hp} {b L : Addr} (h : Bag H b L) (s : Same H H1) : Bag H1 b L := by
  obtain ⟨ns, i, c, s', k, h1, h2, r⟩ := h
  exact ⟨ns, i, c, s', k, s _ _ h1, s _ _ h2, r⟩
theorem Bag.upd {H : Hp} {b L p : Addr} {o : HO} (h : Bag H b L) (n1 : p ≠ b) (n2 : p ≠ L) : Bag (upd H p o) b L := by
  obtain ⟨ns, i, c, s', k, h1, h2, r⟩ := h
  exact ⟨ns, i, c, s', k, by rw [upd_ne (Ne.symm n1)]; exact h1, by rw [upd_ne (Ne.symm n2)]; exact h2, r⟩
theorem Bg.put {H H1 : Hp} {b : Addr} {ns : List Int} {L : Addr} {i c s k i' c' s' k' : Int} (h : Bg H b ns L i c s k) (sm : Same (Hid b H) H1) (e : H1 b = some (.lst [.ref L, .int i', .int c', .int s', .int k'])) (hi : 0 ≤ i' ∧ i' ≤ ns.length) (hc : 0 ≤ c') (hs : 0 ≤ s' ∧ s' < 2 ^ 31) : Bg H1 b ns L i' c' s' k' := by
  obtain ⟨h1, h2, h3, h4, h5, h6, h7, h8, h9⟩ := h
  exact ⟨e, hid_get sm h2 h3, h3, hi.1, hi.2, h6, hc, hs.1, hs.2⟩
theorem Bg.same {H H1 : Hp} {b : Addr} {ns : List Int} {L : Addr} {i c s k : Int} (h : Bg H b ns L i c s k) (sm : Same H H1) : Bg H1 b ns L i c s k := by
  obtain ⟨h1, h2, r⟩ := h
  exact ⟨sm _ _ h1, sm _ _ h2, r⟩
section
variable {P : Program} {w : World} {K : PySem.W.Frag} {mg : Str → Option Value} {base : Heap} {C_InvalidNumber C_BadBits C_BadWords : Addr}
abbrev sp_start (K : PySem.W.Frag) : Sp := S1 fun x H Q E => ∃ a ns, x = .ref a ∧ SqL K H a (vi ns) ∧ ∀ b L H', H b = none → H L = none → Bag H' b L → Same H H' → Q (.ref b) H'
theorem cl_law_start (nb : Nb mg) (D_law_start : DefAt K mg "_law_start" st_law_start)   : Cl P w K mg base 3 "_law_start" ["_law_script"] (sp_start K) [[]] := by
  obtain ⟨f, fd, hm, F⟩ := D_law_start
  refine cl_of (k := 2) hm F (fun kV doc pm an cdv ct ks hks us ws hl hlw => ?bind) sc_law_start ?len (fun cdv A outer s H vs Q E hr h => ⟨_, (by exact (pss_cons (ps_set (i := 1) sc_law_start.nd rfl (Or.inl rfl) pe_int)
      (pss_cons (ps_for PassesOwn.leaving rfl (k_seq (K := K) rfl (k_sl (K := K) rfl (pv 0) po_none (po_some pe_int))) (pg_name (i := 2) sc_law_start.nd rfl (Or.inl rfl))
      (pss_one (ps_set (i := 1) sc_law_start.nd rfl (Or.inl rfl) (pe_op op_modA (pe_callTy k_int (by rfl) nb.n_int (by decide +kernel) (pa_cons (pe_op (k_add (K := K) rfl) (pe_op (k_add (K := K) rfl) (pe_op op_mulA (pv 1) pe_int) (pe_op op_modA (pe_callTy k_int (by rfl) nb.n_int (by decide +kernel) (pa_cons (pv 2) pa_nil)) pe_int)) pe_int) pa_nil)) pe_int))))
      (pss_one (ps_ret (pe_lst (pa_cons (pe_callTy (k_list (K := K) rfl) (by rfl) nb.n_list (by decide +kernel) (pa_cons (k_sl (K := K) rfl (pv 0) po_none (po_some pe_int)) pa_nil)) (pa_cons pe_int (pa_cons pe_int (pa_cons (pv 1) (pa_cons pe_int pa_nil))))))))))), ?_⟩)
  case bind =>
    obtain rfl : ks = ([] : List Str) := by simpa using hks
    · have hl2 : us.length = 1 := by simp only [List.length_append, List.length_cons, List.length_nil] at hl hlw; omega
      match us, hl2, ws, hlw with
      | [_], _, [], _ => rfl
  case len =>
    intro vs H Q E h
    obtain ⟨_, rfl, _⟩ := h
    rfl
  obtain ⟨x0, rfl, h⟩ := h
  refine i_start [some x0, none, none] rfl ?_
  obtain ⟨a, ns, rfl, h1, g⟩ := h
  repeat walk_at "s"
  have cut : cutV (vi ns) none (some 63) = vi (ns.take 63) := by
    unfold cutV
    rw [HT.sIx_none, show (63 : Int) = ((63 : Nat) : Int) from rfl, HT.sIx_nat, vi_len, List.drop_zero, Nat.sub_zero]
    unfold vi
    rw [← List.map_take]
    congr 1
    rcases Nat.le_total 63 ns.length with h | h
    · rw [Nat.min_eq_left h]
    · rw [Nat.min_eq_right h, List.take_of_length_le (Nat.le_refl _), List.take_of_length_le h]
  refine i_slLN h1 fun p H1 hp ep s1 => ?_
  rw [cut] at ep
  refine ⟨true, p, _, rfl, sk_lst ep, for_G (fun i σ H' => (∃ mi u, σ = [some (.ref a), some (.int mi), u] ∧ 0 ≤ mi ∧ mi < 2147483477) ∧ Same H1 H') ⟨⟨77527, none, rfl, by decide, by decide⟩, .refl _⟩ (fun i σ H' _ q => sk_lst (q.2 _ _ ep)) ?_ ?_⟩
  · rintro i x σ H2 H3 hi ⟨⟨mi, u, rfl, m0, m1⟩, s2⟩ ⟨rfl, hx⟩
    obtain ⟨n, e, rfl⟩ := vi_get hx
    repeat walk_at "s"
    refine i_mulI (by unfold CMul; omega) ?_
    repeat walk_at "s"
    refine i_mod ?_ ?_
    · decide
    repeat walk_at "s"
    refine i_mod ?_ ?_
    · decide
    repeat walk_at "s"
    exact ⟨⟨_, _, rfl, Int.emod_nonneg _ (by decide), Int.emod_lt_of_pos _ (by decide)⟩, s2⟩
  · rintro σ H2 ⟨⟨mi, u, rfl, m0, m1⟩, s2⟩
    repeat walk_at "s"
    have s12 := s1.trans s2
    refine i_slLN (s12.seq h1) fun p3 H3 hp3 ep3 s3 => ?_
    rw [cut] at ep3
    repeat walk_at "s"
    refine i_listC (sk_lst ep3) fun L H4 hL eL s4 => ?_
    repeat walk_at "s"
    refine i_newL fun b H5 hb eb s5 => ?_
    have s15 := (s12.trans s3).trans s4
    repeat walk_at "s"
    exact g b L H5 (none_of s15 hb) (none_of (s12.trans s3) hL) ⟨ns.take 63, 0, 0, mi, 0, eb, s5 _ _ eL, (by rintro rfl; rw [eL] at hb; cases hb), by omega, by omega, by rw [List.length_take]; omega, by omega, by omega, by omega⟩ (s15.trans s5)
abbrev sp_draw : Sp := S2 fun x y H Q E => ∃ b L m, x = .ref b ∧ y = .int m ∧ Bag H b L ∧ 0 < m ∧ m < 2 ^ 30 ∧ ∀ d H', 0 ≤ d → d < m → Bag H' b L → Same (Hid b H) H' → Q (.int d) H'
theorem cl_law_draw (nb : Nb mg) (D_law_draw : DefAt K mg "_law_draw" st_law_draw)   : Cl P w K mg base 3 "_law_draw" ["_law_bag", "_law_many"] sp_draw [[]] := by
  obtain ⟨f, fd, hm, F⟩ := D_law_draw
  refine cl_of (k := 2) hm F (fun kV doc pm an cdv ct ks hks us ws hl hlw => ?bind) sc_law_draw ?len (fun cdv A outer s H vs Q E hr h => ⟨_, (by exact (pss_cons (ps_asg (pe_op (k_add (K := K) rfl) (pe_ix (k_ix (K := K) rfl) (pv 0) pe_int (fun _ _ => rfl)) pe_int) (pg_sub (pv 0) pe_int set_list))
      (pss_cons (ps_if (PW.pt (pw_and (pt_cmpR (k_eq (K := K) rfl hr.units) (pe_ix (k_ix (K := K) rfl) (pv 0) pe_int (fun _ _ => rfl)) pe_int (nomark _)) (pw_and1 (pt_cmpR op_ltA (pe_ix (k_ix (K := K) rfl) (pv 0) pe_int (fun _ _ => rfl)) (pe_callB (k_len (K := K) rfl) (by rfl) nb.n_len (by decide +kernel) (pa_cons (pe_ix (k_ix (K := K) rfl) (pv 0) pe_int (fun _ _ => rfl)) pa_nil)) (nomark _)))))
      (pss_cons (ps_asg (pe_tup (pa_cons (pe_ix (k_ix (K := K) rfl) (pe_ix (k_ix (K := K) rfl) (pv 0) pe_int (fun _ _ => rfl)) (pe_ix (k_ix (K := K) rfl) (pv 0) pe_int (fun _ _ => rfl)) (fun _ _ => rfl)) (pa_cons (pe_op (k_add (K := K) rfl) (pe_ix (k_ix (K := K) rfl) (pv 0) pe_int (fun _ _ => rfl)) pe_int) pa_nil))) (k_gtup (K := K) rfl rfl (pgs_cons (pg_name (i := 3) sc_law_draw.nd rfl (Or.inl rfl)) (pgs_cons (pg_sub (pv 0) pe_int set_list) pgs_nil))))
      (pss_one (ps_if (pt_cmpR op_geA (pv 3) (pe_op op_powA pe_int pe_int) (nomark _))
      (pss_one (ps_asg (pv 3) (pg_sub (pv 0) pe_int set_list)))
      (pss_one (ps_asg (pe_op op_modA (pe_callTy k_int (by rfl) nb.n_int (by decide +kernel) (pa_cons (pe_op (k_add (K := K) rfl) (pe_op (k_add (K := K) rfl) (pe_op op_mulA (pe_ix (k_ix (K := K) rfl) (pv 0) pe_int (fun _ _ => rfl)) pe_int) (pe_op op_mulA (pe_op op_modA (pe_callTy k_int (by rfl) nb.n_int (by decide +kernel) (pa_cons (pv 3) pa_nil)) pe_int) pe_int)) pe_int) pa_nil)) pe_int) (pg_sub (pv 0) pe_int set_list))))))
      pss_nil)
      (pss_cons (ps_if (pt_cmpR op_gtA (pe_ix (k_ix (K := K) rfl) (pv 0) pe_int (fun _ _ => rfl)) pe_int (nomark _))
      (pss_cons (ps_asg (pe_tup (pa_cons (pe_op op_modA (pe_callTy k_int (by rfl) nb.n_int (by decide +kernel) (pa_cons (pe_ix (k_ix (K := K) rfl) (pv 0) pe_int (fun _ _ => rfl)) pa_nil)) (pv 1)) (pa_cons (pe_op op_divA (pe_ix (k_ix (K := K) rfl) (pv 0) pe_int (fun _ _ => rfl)) (pv 1)) pa_nil))) (k_gtup (K := K) rfl rfl (pgs_cons (pg_name (i := 4) sc_law_draw.nd rfl (Or.inl rfl)) (pgs_cons (pg_sub (pv 0) pe_int set_list) pgs_nil))))
      (pss_one (ps_ret (pv 4))))
      pss_nil)
      (pss_cons (ps_set (i := 2) sc_law_draw.nd rfl (Or.inl rfl) (pe_callTy k_int (by rfl) nb.n_int (by decide +kernel) (pa_cons (pe_ix (k_ix (K := K) rfl) (pv 0) pe_int (fun _ _ => rfl)) pa_nil)))
      (pss_cons (ps_asg (pe_op op_modA (pe_callTy k_int (by rfl) nb.n_int (by decide +kernel) (pa_cons (pe_op (k_add (K := K) rfl) (pe_op (k_add (K := K) rfl) (pe_op (k_add (K := K) rfl) (pe_op op_powA (pv 2) pe_int) (pe_op op_mulA (pv 2) pe_int)) (pe_op op_mulA (pe_ix (k_ix (K := K) rfl) (pv 0) pe_int (fun _ _ => rfl)) pe_int)) pe_int) pa_nil)) pe_int) (pg_sub (pv 0) pe_int set_list))
      (pss_one (ps_ret (pe_op op_modA (pe_callTy k_int (by rfl) nb.n_int (by decide +kernel) (pa_cons (pe_op (k_add (K := K) rfl) (pe_op op_divA (pe_ix (k_ix (K := K) rfl) (pv 0) pe_int (fun _ _ => rfl)) pe_int) (pe_op op_mulA (pe_op op_modA (pe_callTy k_int (by rfl) nb.n_int (by decide +kernel) (pa_cons (pe_ix (k_ix (K := K) rfl) (pv 0) pe_int (fun _ _ => rfl)) pa_nil)) pe_int) pe_int)) pa_nil)) (pv 1)))))))))), ?_⟩)
  case bind =>
    obtain rfl : ks = ([] : List Str) := by simpa using hks
    · have hl2 : us.length = 2 := by simp only [List.length_append, List.length_cons, List.length_nil] at hl hlw; omega
      match us, hl2, ws, hlw with
      | [_, _], _, [], _ => rfl
  case len =>
    intro vs H Q E h
    obtain ⟨_, _, rfl, _⟩ := h
    rfl
  obtain ⟨x0, x1, rfl, h⟩ := h
  refine i_start [some x0, some x1, none, none, none] rfl ?_
  obtain ⟨b, L, m, rfl, rfl, ⟨ns, i, c, sd, k, hb⟩, m0, m1, g⟩ := h
  obtain ⟨b1, b2, b3, b4, b5, b6, b7, b8, b9⟩ := id hb
  repeat walk_at "s"
  refine i_ixS (sk_lst b1) (by first | exact at0 | exact at1 | exact at2 | exact at3 | exact at4) ?_
  repeat walk_at "s"
  refine i_setB [_, _, _, _, _] b1 (ix5 (by decide) (by decide)) rfl fun H1 e1 s1 => ?_
  have hb1 := hb.put s1 e1 ⟨b4, b5⟩ b7 ⟨b8, b9⟩
  obtain ⟨b1, b2, -, -, -, -, -, -, -⟩ := id hb1
  with_reducible refine i_nx ?_
  with_reducible refine i_seqC (fun σ H' => (∃ u v, σ = [some (.ref b), some (.int m), none, u, v]) ∧ Same (Hid b H) H' ∧ ∃ i c sd k, Bg H' b ns L i c sd k) ?_ ?_
  · rintro σ H2 ⟨⟨u, v, rfl⟩, s2, i, c, sd, k, hb⟩
    obtain ⟨b1, b2, b3, b4, b5, b6, b7, b8, b9⟩ := id hb
    repeat walk_at "s"
    refine i_ixS (sk_lst b1) (by first | exact at0 | exact at1 | exact at2 | exact at3 | exact at4) ?_
    repeat walk_at "s"
    refine i_if (fun hc => ?_) (fun hc => ?_)
    · repeat walk_at "s"
      refine i_ixS (sk_lst b1) (by first | exact at0 | exact at1 | exact at2 | exact at3 | exact at4) ?_
      repeat walk_at "s"
      refine i_mod m0 ?_
      repeat walk_at "s"
      refine i_ixS (sk_lst b1) (by first | exact at0 | exact at1 | exact at2 | exact at3 | exact at4) ?_
      repeat walk_at "s"
      refine i_div ⟨m0, m1⟩ ?_
      repeat walk_at "s"
      refine i_newT fun T H3 hT eT s3 => ?_
      refine i_gtup (.inl (.inl eT)) rfl ?_
      repeat walk_at "s"
      refine i_setB [_, _, _, _, _] (s3 _ _ b1) (ix5 (by decide) (by decide)) rfl fun H4 e4 s4 => ?_
      repeat walk_at "s"
      exact g _ H4 (Int.emod_nonneg _ (by omega)) (Int.emod_lt_of_pos _ m0) ⟨ns, _, _, _, _, (hb.same s3).put s4 e4 ⟨b4, b5⟩ (Int.ediv_nonneg b7 (by omega)) ⟨b8, b9⟩⟩ (hid_trans (hid_then s2 s3) s4)
    · repeat walk_at "s"
      refine i_ixS (sk_lst b1) (by first | exact at0 | exact at1 | exact at2 | exact at3 | exact at4) ?_
      repeat walk_at "s"
      refine i_pow ⟨by decide, by decide, by omega⟩ ?_
      repeat walk_at "s"
      refine i_mulI (by unfold CMul; omega) ?_
      repeat walk_at "s"
      refine i_ixS (sk_lst b1) (by first | exact at0 | exact at1 | exact at2 | exact at3 | exact at4) ?_
      repeat walk_at "s"
      refine i_mulI (by unfold CMul; omega) ?_
      repeat walk_at "s"
      refine i_mod (by decide) ?_
      repeat walk_at "s"
      refine i_setB [_, _, _, _, _] b1 (ix5 (by decide) (by decide)) rfl fun H4 e4 s4 => ?_
      repeat walk_at "s"
      refine i_ixS (sk_lst e4) (by first | exact at0 | exact at1 | exact at2 | exact at3 | exact at4) ?_
      repeat walk_at "s"
      refine i_div ⟨by decide, by decide⟩ ?_
      repeat walk_at "s"
      refine i_ixS (sk_lst e4) (by first | exact at0 | exact at1 | exact at2 | exact at3 | exact at4) ?_
      repeat walk_at "s"
      refine i_mod (by decide) ?_
      repeat walk_at "s"
      refine i_mulI (by unfold CMul; omega) ?_
      repeat walk_at "s"
      refine i_mod m0 ?_
      repeat walk_at "s"
      have q0 : ∀ z : Int, 0 ≤ z % 2147483587 := fun z => Int.emod_nonneg _ (by decide)
      have q1 : ∀ z : Int, z % 2147483587 < 2147483587 := fun z => Int.emod_lt_of_pos _ (by decide)
      exact g _ H4 (Int.emod_nonneg _ (by omega)) (Int.emod_lt_of_pos _ m0) ⟨ns, _, _, _, _, hb.put s4 e4 ⟨b4, b5⟩ b7 ⟨q0 _, Int.lt_of_lt_of_le (q1 _) (by decide)⟩⟩ (hid_trans s2 s4)
  · intro R hR
    repeat walk_at "s"
    refine i_ixS (sk_lst b1) (by first | exact at0 | exact at1 | exact at2 | exact at3 | exact at4) ?_
    repeat walk_at "s"
    refine i_if (fun c0 => ?_) (fun c0 => ?_)
    · repeat walk_at "s"
      refine i_ixS (sk_lst b1) (by first | exact at0 | exact at1 | exact at2 | exact at3 | exact at4) ?_
      repeat walk_at "s"
      refine i_ixS (sk_lst b1) (by first | exact at0 | exact at1 | exact at2 | exact at3 | exact at4) ?_
      repeat walk_at "s"
      refine i_lenC (len_sk (sk_lst b2)) ?_
      repeat walk_at "s"
      rw [vi_len]
      refine i_if (fun ci => ?_) (fun ci => ?_)
      · repeat walk_at "s"
        refine i_ixS (sk_lst b1) (by first | exact at0 | exact at1 | exact at2 | exact at3 | exact at4) ?_
        repeat walk_at "s"
        refine i_ixS (sk_lst b1) (by first | exact at0 | exact at1 | exact at2 | exact at3 | exact at4) ?_
        repeat walk_at "s"
        refine i_ixS (sk_lst b2) (atI_vi b4 ci) ?_
        repeat walk_at "s"
        refine i_ixS (sk_lst b1) (by first | exact at0 | exact at1 | exact at2 | exact at3 | exact at4) ?_
        repeat walk_at "s"
        refine i_newT fun T H3 hT eT s3 => ?_
        refine i_gtup (.inl (.inl eT)) rfl ?_
        repeat walk_at "s"
        refine i_setB [_, _, _, _, _] (s3 _ _ b1) (ix5 (by decide) (by decide)) rfl fun H4 e4 s4 => ?_
        have hb4 := (hb1.same s3).put s4 e4 ⟨by omega, by omega⟩ b7 ⟨b8, b9⟩
        have sH4 := hid_trans (hid_then s1 s3) s4
        repeat walk_at "s"
        refine i_pow ⟨by decide, by decide, by decide⟩ ?_
        repeat walk_at "s"
        refine i_if (fun cb => ?_) (fun cb => ?_)
        · repeat walk_at "s"
          refine i_setB [_, _, _, _, _] e4 (ix5 (by decide) (by decide)) rfl fun H5 e5 s5 => ?_
          repeat walk_at "s"
          exact hR _ _ ⟨⟨_, _, rfl⟩, hid_trans sH4 s5, _, _, _, _, hb4.put s5 e5 ⟨by omega, by omega⟩ (Int.le_trans (by decide) cb) ⟨b8, b9⟩⟩
        · repeat walk_at "s"
          refine i_ixS (sk_lst e4) (by first | exact at0 | exact at1 | exact at2 | exact at3 | exact at4) ?_
          repeat walk_at "s"
          refine i_mulI (by unfold CMul; omega) ?_
          repeat walk_at "s"
          refine i_mod (by decide) ?_
          repeat walk_at "s"
          refine i_mulI (by unfold CMul; omega) ?_
          repeat walk_at "s"
          refine i_mod (by decide) ?_
          repeat walk_at "s"
          refine i_setB [_, _, _, _, _] e4 (ix5 (by decide) (by decide)) rfl fun H5 e5 s5 => ?_
          repeat walk_at "s"
          have q0 : ∀ z : Int, 0 ≤ z % 2147483587 := fun z => Int.emod_nonneg _ (by decide)
          have q1 : ∀ z : Int, z % 2147483587 < 2147483587 := fun z => Int.emod_lt_of_pos _ (by decide)
          exact hR _ _ ⟨⟨_, _, rfl⟩, hid_trans sH4 s5, _, _, _, _, hb4.put s5 e5 ⟨by omega, by omega⟩ b7 ⟨q0 _, Int.lt_of_lt_of_le (q1 _) (by decide)⟩⟩
      · repeat walk_at "s"
        exact hR _ _ ⟨⟨_, _, rfl⟩, s1, _, _, _, _, hb1⟩
    · repeat walk_at "s"
      exact hR _ _ ⟨⟨_, _, rfl⟩, s1, _, _, _, _, hb1⟩
end
end T

set_option Elab.async false
set_option linter.all false
set_option maxRecDepth 100000
set_option maxHeartbeats 4000000
/-! k62, part F: the law's own small defs, gone on. -/
namespace T
open PySem PySem.Spec PyProof.Rows L2 VI VC VG VD VE VF VH VL VM
theorem sc_law_pick : FnScope ["_law_bag", "_law_some"] ["_law_bag", "_law_some"] (defScope st_law_pick) := ⟨rfl, rfl, rfl, by decide +kernel, rfl, by decide +kernel, by decide +kernel⟩
theorem sc_law_like : FnScope ["_law_told_here", "_law_due"] ["_law_told_here", "_law_due"] (defScope st_law_like) := ⟨rfl, rfl, rfl, by decide +kernel, rfl, by decide +kernel, by decide +kernel⟩
theorem sc_law_word_bits : FnScope ["_law_value", "_law_wide", "_law_k"] ["_law_value", "_law_wide"] (defScope st_law_word_bits) := ⟨rfl, rfl, rfl, by decide +kernel, rfl, by decide +kernel, by decide +kernel⟩
theorem sc_law_words_bits : FnScope ["_law_words", "_law_wide", "_law_found", "_law_value"] ["_law_words", "_law_wide"] (defScope st_law_words_bits) := ⟨rfl, rfl, rfl, by decide +kernel, rfl, by decide +kernel, by decide +kernel⟩
theorem sc_law_step : FnScope ["_law_wide", "_law_spot", "_law_held", "_law_store", "_law_many", "_law_fresh", "_law_word", "_law_at", "_law_deed", "_law_ahead"] ["_law_wide", "_law_spot", "_law_held", "_law_store"] (defScope st_law_step) := ⟨rfl, rfl, rfl, by decide +kernel, rfl, by decide +kernel, by decide +kernel⟩
theorem sc_law_state : FnScope ["_law_bag", "_law_wide", "_law_held", "_law_top", "_law_many", "_law_k"] ["_law_bag", "_law_wide"] (defScope st_law_state) := ⟨rfl, rfl, rfl, by decide +kernel, rfl, by decide +kernel, by decide +kernel⟩
theorem sc_law_state_bits : FnScope ["_law_wide", "_law_state_here", "_law_spot", "_law_held", "_law_store"] ["_law_wide", "_law_state_here"] (defScope st_law_state_bits) := ⟨rfl, rfl, rfl, by decide +kernel, rfl, by decide +kernel, by decide +kernel⟩
theorem sc_law_many_bits : FnScope ["_law_wide"] ["_law_wide"] (defScope st_law_many_bits) := ⟨rfl, rfl, rfl, by decide +kernel, rfl, by decide +kernel, by decide +kernel⟩
set_option hygiene false in
local macro_rules | `(tactic| walk_at "s") => `(tactic| with_reducible first | refine i_seq ?_ | refine i_asg ?_ | refine i_ret ?_ | refine i_drop ?_ | refine i_next ?_ | refine i_nx ?_ | refine i_rt ?_ | refine i_ct ?_ | refine i_bk ?_ | refine i_op ?_ | refine i_un ?_ | refine i_cons ?_ | refine i_nil ?_ | refine i_cb ?_ | refine i_calls ?_ | refine i_c ?_ | refine i_ifs ?_ | refine i_ife ?_ | refine i_test ?_ | refine i_tb ?_ | refine i_bl ?_ | refine i_and ?_ | refine i_or ?_ | refine i_not ?_ | refine i_andv ?_ | refine i_orv ?_ | refine i_notv ?_ | refine i_chain ?_ | refine i_addI ?_ | refine i_sub ?_ | refine i_neg ?_ | refine i_eqI ?_ | refine i_eqS ?_ | refine i_neI ?_ | refine i_neS ?_ | refine i_lt ?_ | refine i_le ?_ | refine i_gt ?_ | refine i_ge ?_ | refine i_isN ?_ | refine i_notN ?_ | refine i_gnil ?_ | refine i_gcons ?_ | refine i_gsub ?_ | refine i_par ?_ | refine i_par3 ?_ | refine i_two ?_ | refine i_three ?_ | refine i_slice ?_ | refine i_nopart ?_ | refine i_part ?_ | refine i_ip ?_ | refine i_yes ?_ | refine i_iftrue ?_ | refine i_ifnt ?_ | refine i_ifnf ?_ | refine i_iffalse ?_ | refine i_S1 ?_ | refine i_S2 ?_ | refine i_S3 ?_ | refine i_S4 ?_ | refine i_S5 ?_ | refine i_intC ?_ | refine i_tupN ?_ | refine i_lstN ?_ | refine i_raise ?_ | refine i_for ?_ | refine i_lc ?_ | refine i_rg1 ?_ | refine i_rg2 ?_ | refine i_rg3 ?_ | refine i_sq ?_ | refine i_en ?_ | refine i_rv ?_ | refine i_callks ?_ | refine i_star ?_ | refine i_lc2 ?_ | walk_at "v")
set_option hygiene false in
local macro_rules | `(tactic| walk_at "v") => `(tactic| with_reducible first | refine i_v0 ?_ | refine i_v1 ?_ | refine i_v2 ?_ | refine i_v3 ?_ | refine i_v4 ?_ | refine i_v5 ?_ | refine i_v6 ?_ | refine i_v7 ?_ | refine i_v8 ?_ | refine i_v9 ?_ | refine i_v10 ?_ | refine i_v11 ?_ | refine i_v12 ?_ | refine i_v13 ?_ | refine i_v14 ?_ | refine i_v15 ?_ | refine i_v16 ?_ | refine i_v17 ?_ | refine i_v18 ?_ | refine i_v19 ?_ | refine i_v20 ?_ | refine i_v21 ?_ | refine i_v22 ?_ | refine i_v23 ?_ | refine i_v24 ?_ | refine i_v25 ?_ | refine i_v26 ?_ | refine i_v27 ?_ | refine i_v28 ?_ | refine i_v29 ?_ | refine i_n0 ?_ | refine i_n1 ?_ | refine i_n2 ?_ | refine i_n3 ?_ | refine i_n4 ?_ | refine i_n5 ?_ | refine i_n6 ?_ | refine i_n7 ?_ | refine i_n8 ?_ | refine i_n9 ?_ | refine i_n10 ?_ | refine i_n11 ?_ | refine i_n12 ?_ | refine i_n13 ?_ | refine i_n14 ?_ | refine i_n15 ?_ | refine i_n16 ?_ | refine i_n17 ?_ | refine i_n18 ?_ | refine i_n19 ?_ | refine i_n20 ?_ | refine i_n21 ?_ | refine i_n22 ?_ | refine i_n23 ?_ | refine i_n24 ?_ | refine i_n25 ?_ | refine i_n26 ?_ | refine i_n27 ?_ | refine i_n28 ?_ | refine i_n29 ?_)
theorem hid_sk {bb : Bool} {K : PySem.W.Frag} {b a : Addr} {H H1 : Hp} {xs : List V} (s : Same (Hid b H) H1) (h : H a = some (.lst xs)) (n : a ≠ b) : Sk true K H1 a xs := sk_lst (hid_get s h n)
theorem bitsAll_cons (n : Int) (ns : List Int) (W : Nat) : bitsAll (n :: ns) W = bitsL n W ++ bitsAll ns W := rfl
section
variable {P : Program} {w : World} {K : PySem.W.Frag} {mg : Str → Option Value} {base : Heap} {C_InvalidNumber C_BadBits C_BadWords : Addr}
abbrev sp_pick : Sp := S2 fun x y H Q E => ∃ b L a xs, x = .ref b ∧ y = .ref a ∧ Bag H b L ∧ H a = some (.lst xs) ∧ a ≠ b ∧ 0 < xs.length ∧ xs.length < 2 ^ 30 ∧ ∀ (i : Nat) v H', xs[i]? = some v → Bag H' b L → Same (Hid b H) H' → Q v H'
theorem cl_law_pick (nb : Nb mg) (D_law_pick : DefAt K mg "_law_pick" st_law_pick) (C_law_draw : Cl P w K mg base 3 "_law_draw" ["_law_bag", "_law_many"] sp_draw [[]])  : Cl P w K mg base 6 "_law_pick" ["_law_bag", "_law_some"] sp_pick [[]] := by
  obtain ⟨f, fd, hm, F⟩ := D_law_pick
  refine cl_of (k := 5) hm F (fun kV doc pm an cdv ct ks hks us ws hl hlw => ?bind) sc_law_pick ?len (fun cdv A outer s H vs Q E hr h => ⟨_, (by exact (pss_one (ps_ret (pe_ix (k_ix (K := K) rfl) (pv 1) (pe_cl C_law_draw hr (by decide) (fun σ => passAt (takes_of rfl rfl rfl rfl) σ) (pa_cons (pv 0) (pa_cons (pe_callB (k_len (K := K) rfl) (by rfl) nb.n_len (by decide +kernel) (pa_cons (pv 1) pa_nil)) pa_nil))) (fun _ _ => rfl))))), ?_⟩)
  case bind =>
    obtain rfl : ks = ([] : List Str) := by simpa using hks
    · have hl2 : us.length = 2 := by simp only [List.length_append, List.length_cons, List.length_nil] at hl hlw; omega
      match us, hl2, ws, hlw with
      | [_, _], _, [], _ => rfl
  case len =>
    intro vs H Q E h
    obtain ⟨_, _, rfl, _⟩ := h
    rfl
  obtain ⟨x0, x1, rfl, h⟩ := h
  refine i_start [some x0, some x1] rfl ?_
  obtain ⟨b, L, a, xs, rfl, rfl, hb, ha, hne, h0, h1, g⟩ := h
  repeat walk_at "s"
  refine i_lenC (len_sk (sk_lst ha)) ?_
  repeat walk_at "s"
  refine ⟨b, L, _, rfl, rfl, hb, by omega, by omega, fun d H' d0 d1 hb' s' => ?_⟩
  have e : xs[d.toNat]? = some xs[d.toNat] := by simp
  refine i_ixS (sk_lst (hid_get s' ha hne)) (by have := atI_nat e; rwa [Int.toNat_of_nonneg d0] at this) ?_
  exact g _ _ _ e hb' s'
def likeR (K : PySem.W.Frag) : V → V → Hp → VK → XK → Prop := fun x y H Q E => ∃ d e, Rp K H x d ∧ Rp K H y e ∧ ShowOk d ∧ ShowOk e ∧ Q (.bl (decide (d.shown = e.shown))) H
abbrev sp_like (K : PySem.W.Frag) : Sp := S2 (likeR K)
theorem cl_law_like (nb : Nb mg) (D_law_like : DefAt K mg "_law_like" st_law_like)   : ClG P w K mg base 3 "_law_like" ["_law_told_here", "_law_due"] (sp_like K) := by
  obtain ⟨f, fd, hm, F⟩ := D_law_like
  refine clG_of (k := 2) hm F (fun kV doc pm an cdv ct us hl => match us, hl with | [_, _], _ => rfl) sc_law_like ?len (fun cdv A outer s H vs Q E hgd hr h => ⟨_, (by exact (pss_one (ps_ret (pe_cmpR (k_eq (K := K) rfl hr.units) (pe_callB (k_repr (K := K) rfl hgd hr.units) (by rfl) nb.n_repr (by decide +kernel) (pa_cons (pv 0) pa_nil)) (pe_callB (k_repr (K := K) rfl hgd hr.units) (by rfl) nb.n_repr (by decide +kernel) (pa_cons (pv 1) pa_nil)) (nomark _))))), ?_⟩)
  case len =>
    intro vs H Q E h
    obtain ⟨_, _, rfl, _⟩ := h
    rfl
  obtain ⟨x0, x1, rfl, h⟩ := h
  refine i_start [some x0, some x1] rfl ?_
  obtain ⟨d, e, hd, he, od, oe, g⟩ := h
  repeat walk_at "s"
  refine i_repr hd od.sh od.dp od.ln ?_
  repeat walk_at "s"
  refine i_repr he oe.sh oe.dp oe.ln ?_
  repeat walk_at "s"
  exact g
theorem cl_law_word_bits (nb : Nb mg) (D_law_word_bits : DefAt K mg "_law_word_bits" st_law_word_bits)   : Cl P w K mg base 3 "_law_word_bits" ["_law_value", "_law_wide"] sp_low [[]] := by
  obtain ⟨f, fd, hm, F⟩ := D_law_word_bits
  refine cl_of (k := 2) hm F (fun kV doc pm an cdv ct ks hks us ws hl hlw => ?bind) sc_law_word_bits ?len (fun cdv A outer s H vs Q E hr h => ⟨_, (by exact (pss_one (ps_ret (pe_lc (own := [("_law_k", 2)]) rfl sc_law_word_bits.nd (pi_rg1 rfl nb.n_range (pa_cons (pv 1) pa_nil)) (blkOk_by (own := [("_law_k", 2)]) (N := ["_law_value", "_law_wide", "_law_k"]) (sc := defScope st_law_word_bits) (by decide +kernel)) (fun _ _ _ _ _ => (pg_name (i := 2) sc_law_word_bits.nd rfl (Or.inl rfl))) (fun _ _ _ _ _ => pts_nil) (fun _ _ _ _ _ => (pe_op op_andA (pe_op op_shrA (pv 0) (pv 2)) pe_int)))))), ?_⟩)
  case bind =>
    obtain rfl : ks = ([] : List Str) := by simpa using hks
    · have hl2 : us.length = 2 := by simp only [List.length_append, List.length_cons, List.length_nil] at hl hlw; omega
      match us, hl2, ws, hlw with
      | [_, _], _, [], _ => rfl
  case len =>
    intro vs H Q E h
    obtain ⟨_, _, rfl, _⟩ := h
    rfl
  obtain ⟨x0, x1, rfl, h⟩ := h
  refine i_start [some x0, some x1, none] rfl ?_
  obtain ⟨n, W, rfl, rfl, hW, h⟩ := h
  repeat walk_at "s"
  refine ⟨(W : Nat), rfl, by omega, by omega, lc_new (vi (bitsL n W)) [some (.int n), some (.int W), none] rfl (by rw [vi_len, bitsL_len]; omega) (sz (by omega)) (fun _ _ => trivial) ?_ h⟩
  rintro i x y H1 H2 R Z hi hy s1 ⟨rfl, rfl⟩ hR
  repeat walk_at "s"
  refine ⟨rfl, ?_⟩
  repeat walk_at "s"
  refine i_shr (by omega) ?_
  repeat walk_at "s"
  refine i_band (shr_and ?_)
  have := hR H2 (.refl _)
  rw [bitsL_get hy] at this
  exact this
abbrev sp_wbits (K : PySem.W.Frag) : Sp := S2 fun x y H Q E => ∃ (a : Addr) (ns : List Int) (W : Nat), x = .ref a ∧ y = .int W ∧ SqL K H a (vi ns) ∧ W ≤ 64 ∧ ns.length ≤ 64 ∧ NewLst (vi (bitsAll ns W)) Q H
theorem cl_law_words_bits (nb : Nb mg) (D_law_words_bits : DefAt K mg "_law_words_bits" st_law_words_bits) (C_law_word_bits : Cl P w K mg base 3 "_law_word_bits" ["_law_value", "_law_wide"] sp_low [[]])  : Cl P w K mg base 6 "_law_words_bits" ["_law_words", "_law_wide"] (sp_wbits K) [[]] := by
  obtain ⟨f, fd, hm, F⟩ := D_law_words_bits
  refine cl_of (k := 5) hm F (fun kV doc pm an cdv ct ks hks us ws hl hlw => ?bind) sc_law_words_bits ?len (fun cdv A outer s H vs Q E hr h => ⟨_, (by exact (pss_cons (ps_set (i := 2) sc_law_words_bits.nd rfl (Or.inl rfl) (pe_lst pa_nil))
      (pss_cons (ps_for PassesOwn.leaving rfl (k_seq (K := K) rfl (pv 0)) (pg_name (i := 3) sc_law_words_bits.nd rfl (Or.inl rfl))
      (pss_one (ps_set (i := 2) sc_law_words_bits.nd rfl (Or.inl rfl) (pe_op (k_add (K := K) rfl) (pv 2) (pe_cl C_law_word_bits hr (by decide) (fun σ => passAt (takes_of rfl rfl rfl rfl) σ) (pa_cons (pv 3) (pa_cons (pv 1) pa_nil)))))))
      (pss_one (ps_ret (pv 2)))))), ?_⟩)
  case bind =>
    obtain rfl : ks = ([] : List Str) := by simpa using hks
    · have hl2 : us.length = 2 := by simp only [List.length_append, List.length_cons, List.length_nil] at hl hlw; omega
      match us, hl2, ws, hlw with
      | [_, _], _, [], _ => rfl
  case len =>
    intro vs H Q E h
    obtain ⟨_, _, rfl, _⟩ := h
    rfl
  obtain ⟨x0, x1, rfl, h⟩ := h
  refine i_start [some x0, some x1, none, none] rfl ?_
  obtain ⟨a, ns, W, rfl, rfl, h1, hW, hl, g⟩ := h
  repeat walk_at "s"
  refine i_newL fun p H1 hp ep s1 => ?_
  repeat walk_at "s"
  refine ⟨true, a, _, rfl, s1.seq h1, for_G (fun i σ H' => ∃ q u, σ = [some (.ref a), some (.int W), some (.ref q), u] ∧ H q = none ∧ H' q = some (.lst (vi (bitsAll (ns.take i) W))) ∧ Same H H') ⟨p, none, rfl, hp, by rw [List.take_zero]; exact ep, s1⟩ (fun i σ H' _ q => q.choose_spec.choose_spec.2.2.2.seq h1) ?_ ?_⟩
  · rintro i x σ H2 H3 hi ⟨q, u, rfl, hq, eq, s2⟩ ⟨rfl, hx⟩
    obtain ⟨n, e, rfl⟩ := vi_get hx
    repeat walk_at "s"
    refine ⟨n, W, rfl, rfl, hW, fun p2 H4 hp2 ep2 s4 => ?_⟩
    refine i_addLN (s4 _ _ eq) ep2 (by
      rw [vi_len, vi_len, bitsL_len, bitsAll_len]
      have : (ns.take i).length * W ≤ 64 * 64 := Nat.mul_le_mul (by rw [List.length_take]; omega) hW
      exact sz (by omega)) fun p3 H5 hp3 ep3 s5 => ?_
    repeat walk_at "s"
    have s25 := (s2.trans s4).trans s5
    refine ⟨p3, _, rfl, none_of (s2.trans s4) hp3, ?_, s25⟩
    rw [ep3, List.take_succ, e, vi_app]
    simp [bitsAll, List.flatMap_append]
  · rintro σ H2 ⟨q, u, rfl, hq, eq, s2⟩
    repeat walk_at "s"
    refine g q H2 hq ?_ s2
    rw [eq, vi_len, List.take_length]
abbrev sp_lstep (K : PySem.W.Frag) : Sp := S4 fun x0 x1 x2 x3 H Q E => ∃ (W m : Nat) (C G : Int) (a : Addr) (ns : List Int), x0 = .int W ∧ x1 = .int C ∧ x2 = .int G ∧ x3 = .ref a ∧ WM W m ∧ 0 ≤ C ∧ C < m ∧ ns.length = m ∧ SqL K H a (vi ns) ∧ StepOut Q H (stepF m (2 ^ W) C G ns)
theorem cl_law_step (nb : Nb mg) (D_law_step : DefAt K mg "_law_step" st_law_step)   : Cl P w K mg base 3 "_law_step" ["_law_wide", "_law_spot", "_law_held", "_law_store"] (sp_lstep K) [[]] := by
  obtain ⟨f, fd, hm, F⟩ := D_law_step
  refine cl_of (k := 2) hm F (fun kV doc pm an cdv ct ks hks us ws hl hlw => ?bind) sc_law_step ?len (fun cdv A outer s H vs Q E hr h => ⟨_, (by exact (pss_cons (ps_par3 (i := 4) (j := 5) (l := 6) rfl sc_law_step.nd rfl rfl rfl (by decide) (by decide) (by decide) rfl rfl rfl (pa_cons (pe_op op_shlA pe_int (pe_op op_subA (pv 0) pe_int)) (pa_cons (pe_callTy (k_list (K := K) rfl) (by rfl) nb.n_list (by decide +kernel) (pa_cons (pv 3) pa_nil)) (pa_cons (pe_ix (k_ix (K := K) rfl) (pv 3) (pv 1) (fun _ _ => rfl)) pa_nil))) (by rfl))
      (pss_cons (ps_par3 (i := 7) (j := 8) (l := 9) rfl sc_law_step.nd rfl rfl rfl (by decide) (by decide) (by decide) rfl rfl rfl (pa_cons (pe_op op_modA (pe_callTy k_int (by rfl) nb.n_int (by decide +kernel) (pa_cons (pv 6) pa_nil)) (pv 4)) (pa_cons (pe_op op_shrA (pv 6) (pe_op op_subA (pv 0) pe_int)) (pa_cons (pe_op op_modA (pe_callTy k_int (by rfl) nb.n_int (by decide +kernel) (pa_cons (pe_op (k_add (K := K) rfl) (pv 1) pe_int) pa_nil)) (pv 4)) pa_nil))) (by rfl))
      (pss_cons (ps_if (pt_cmpR (k_eq (K := K) rfl hr.units) (pv 8) pe_int (nomark _))
      (pss_one (ps_set (i := 2) sc_law_step.nd rfl (Or.inl rfl) (pe_ix (k_ix (K := K) rfl) (pv 3) (pv 7) (fun _ _ => rfl))))
      pss_nil)
      (pss_cons (ps_if (pt_cmpR (k_eq (K := K) rfl hr.units) (pv 8) pe_int (nomark _))
      (pss_one (ps_set (i := 2) sc_law_step.nd rfl (Or.inl rfl) (pe_op op_modA (pe_callTy k_int (by rfl) nb.n_int (by decide +kernel) (pa_cons (pe_op (k_add (K := K) rfl) (pv 2) (pe_ix (k_ix (K := K) rfl) (pv 3) (pv 7) (fun _ _ => rfl))) pa_nil)) (pe_op op_shlA pe_int (pv 0)))))
      pss_nil)
      (pss_cons (ps_if (pt_cmpR (k_eq (K := K) rfl hr.units) (pv 8) pe_int (nomark _))
      (pss_one (ps_asg (pv 2) (pg_sub (pv 5) (pv 7) set_list)))
      pss_nil)
      (pss_cons (ps_if (PW.pt (pw_and (pt_cmpR (k_eq (K := K) rfl hr.units) (pv 8) pe_int (nomark _)) (pw_and1 (pt_cmpR (k_eq (K := K) rfl hr.units) (pv 2) pe_int (nomark _)))))
      (pss_one (ps_set (i := 9) sc_law_step.nd rfl (Or.inl rfl) (pv 7)))
      pss_nil)
      (pss_one (ps_ret (pe_tup (pa_cons (pv 9) (pa_cons (pv 2) (pa_cons (pv 5) pa_nil))))))))))))), ?_⟩)
  case bind =>
    obtain rfl : ks = ([] : List Str) := by simpa using hks
    · have hl2 : us.length = 4 := by simp only [List.length_append, List.length_cons, List.length_nil] at hl hlw; omega
      match us, hl2, ws, hlw with
      | [_, _, _, _], _, [], _ => rfl
  case len =>
    intro vs H Q E h
    obtain ⟨_, _, _, _, rfl, _⟩ := h
    rfl
  obtain ⟨x0, x1, x2, x3, rfl, h⟩ := h
  refine i_start [some x0, some x1, some x2, some x3, none, none, none, none, none, none] rfl ?_
  obtain ⟨W, m, C, G, a, ns, rfl, rfl, rfl, rfl, wm, c0, c1, hl, h1, g⟩ := h
  have wle := wm.le
  repeat walk_at "s"
  refine i_shl1 (by omega) wm.p2 ?_
  repeat walk_at "s"
  refine i_listC (b := true) h1 fun p H1 hp ep s1 => ?_
  repeat walk_at "s"
  have h11 : Sk true K H1 a (vi ns) := s1.seq h1
  refine i_ixS h11 (atI_vi c0 (by omega)) ?_
  have m0 : (0 : Int) < m := by omega
  generalize hx : ns.getD C.toNat 0 = x
  have a0 := Int.emod_nonneg x (Int.ne_of_gt m0)
  have a1 := Int.emod_lt_of_pos x m0
  have stepE : stepF m (2 ^ W) C G ns = if x / m = 3 ∧ G = 0 then (x % m, G, ns)
    else ((C + 1) % m, if x / m = 0 then ns.getD (x % m).toNat 0 else if x / m = 1 then (G + ns.getD (x % m).toNat 0) % 2 ^ W else G, if x / m = 2 then ns.set (x % m).toNat G else ns) := by
    unfold stepF
    rw [hx]
  repeat walk_at "s"
  dsimp only [List.set]
  repeat walk_at "s"
  refine i_mod m0 ?_
  repeat walk_at "s"
  refine i_shr (by omega) ?_
  rw [wm.p2]
  repeat walk_at "s"
  refine i_mod m0 ?_
  repeat walk_at "s"
  dsimp only [List.set]
  repeat walk_at "s"
  refine i_if (fun d0 => ?_) (fun d0 => ?_)
  · repeat walk_at "s"
    refine i_ixS h11 (atI_vi a0 (by omega)) ?_
    repeat walk_at "s"
    refine i_if (fun z => absurd (d0.symm.trans z) (by decide)) (fun d1 => ?_)
    repeat walk_at "s"
    refine i_if (fun z => absurd (d0.symm.trans z) (by decide)) (fun d2 => ?_)
    repeat walk_at "s"
    refine i_if (fun z => absurd (d0.symm.trans z) (by decide)) (fun d3 => ?_)
    repeat walk_at "s"
    refine i_newT fun t H3 ht et s3 => ?_
    repeat walk_at "s"
    exact g.end hp s1 ep ht et s3 (by rw [stepE, if_neg (fun q => d3 q.1), if_pos d0, if_neg d2])
  · repeat walk_at "s"
    refine i_if (fun d1 => ?_) (fun d1 => ?_)
    · repeat walk_at "s"
      refine i_ixS h11 (atI_vi a0 (by omega)) ?_
      repeat walk_at "s"
      refine i_shl1 (by omega) wm.pw ?_
      refine i_mod (Int.pow_pos (by decide)) ?_
      repeat walk_at "s"
      refine i_if (fun z => absurd (d1.symm.trans z) (by decide)) (fun d2 => ?_)
      repeat walk_at "s"
      refine i_if (fun z => absurd (d1.symm.trans z) (by decide)) (fun d3 => ?_)
      repeat walk_at "s"
      refine i_newT fun t H3 ht et s3 => ?_
      repeat walk_at "s"
      exact g.end hp s1 ep ht et s3 (by rw [stepE, if_neg (fun q => d3 q.1), if_neg d0, if_pos d1, if_neg d2])
    · repeat walk_at "s"
      refine i_if (fun d2 => ?_) (fun d2 => ?_)
      · repeat walk_at "s"
        refine i_setL ep (ixN_ok a0 (by rw [vi_len]; omega)) ?_
        repeat walk_at "s"
        refine i_if (fun z => absurd (d2.symm.trans z) (by decide)) (fun d3 => ?_)
        repeat walk_at "s"
        refine i_newT fun t H3 ht et s3 => ?_
        repeat walk_at "s"
        exact g.end hp (upd_at s1 hp) (by rw [upd_same, vi_set]) ht et s3 (by rw [stepE, if_neg (fun q => d3 q.1), if_neg d0, if_neg d1, if_pos d2])
      · repeat walk_at "s"
        refine i_if (fun d3 => ?_) (fun d3 => ?_)
        · repeat walk_at "s"
          refine i_if (fun z => ?_) (fun z => ?_)
          · repeat walk_at "s"
            refine i_newT fun t H3 ht et s3 => ?_
            repeat walk_at "s"
            exact g.end hp s1 ep ht et s3 (by rw [stepE, if_pos ⟨d3, z⟩])
          · repeat walk_at "s"
            refine i_newT fun t H3 ht et s3 => ?_
            repeat walk_at "s"
            exact g.end hp s1 ep ht et s3 (by rw [stepE, if_neg (fun q => z q.2), if_neg d0, if_neg d1, if_neg d2])
        · repeat walk_at "s"
          refine i_newT fun t H3 ht et s3 => ?_
          repeat walk_at "s"
          exact g.end hp s1 ep ht et s3 (by rw [stepE, if_neg (fun q => d3 q.1), if_neg d0, if_neg d1, if_neg d2])
theorem cl_law_many_bits (nb : Nb mg) (D_law_many_bits : DefAt K mg "_law_many_bits" st_law_many_bits)   : Cl P w K mg base 3 "_law_many_bits" ["_law_wide"] sp_manyb [[]] := by
  obtain ⟨f, fd, hm, F⟩ := D_law_many_bits
  refine cl_of (k := 2) hm F (fun kV doc pm an cdv ct ks hks us ws hl hlw => ?bind) sc_law_many_bits ?len (fun cdv A outer s H vs Q E hr h => ⟨_, (by exact (pss_one (ps_ret (pe_op (k_add (K := K) rfl) (pe_op op_subA (pe_op op_mulA pe_int (pv 0)) pe_int) (pe_op op_mulA (pv 0) (pe_op op_shlA pe_int (pe_op op_subA (pv 0) pe_int))))))), ?_⟩)
  case bind =>
    obtain rfl : ks = ([] : List Str) := by simpa using hks
    · have hl2 : us.length = 1 := by simp only [List.length_append, List.length_cons, List.length_nil] at hl hlw; omega
      match us, hl2, ws, hlw with
      | [_], _, [], _ => rfl
  case len =>
    intro vs H Q E h
    obtain ⟨_, rfl, _⟩ := h
    rfl
  obtain ⟨x0, rfl, h⟩ := h
  refine i_start [some x0] rfl ?_
  obtain ⟨W, m, rfl, wm, h⟩ := h
  have wle := wm.le
  repeat walk_at "s"
  refine i_mulI (by unfold CMul; omega) ?_
  repeat walk_at "s"
  refine i_shl1 (by omega) wm.p2 ?_
  refine i_mulI (by unfold CMul; omega) ?_
  repeat walk_at "s"
  rw [show ((2 : Int) * W - 2 + W * m) = (manyB W m : Nat) by rcases wm with ⟨rfl, rfl⟩ | ⟨rfl, rfl⟩ <;> rfl]
  exact h
abbrev sp_lsbits (K : PySem.W.Frag) : Sp := S2 fun x y H Q E => ∃ (W m : Nat) (C G : Int) (t a : Addr) (ns : List Int), x = .int W ∧ y = .ref t ∧ WM W m ∧ ns.length = m ∧ H t = some (.tup [.int C, .int G, .ref a]) ∧ SqL K H a (vi ns) ∧ NewLst (vi (stateBits W C G ns)) Q H
theorem cl_law_state_bits (nb : Nb mg) (D_law_state_bits : DefAt K mg "_law_state_bits" st_law_state_bits) (C_law_word_bits : Cl P w K mg base 3 "_law_word_bits" ["_law_value", "_law_wide"] sp_low [[]]) (C_law_words_bits : Cl P w K mg base 6 "_law_words_bits" ["_law_words", "_law_wide"] (sp_wbits K) [[]])  : Cl P w K mg base 9 "_law_state_bits" ["_law_wide", "_law_state_here"] (sp_lsbits K) [[]] := by
  obtain ⟨f, fd, hm, F⟩ := D_law_state_bits
  refine cl_of (k := 8) hm F (fun kV doc pm an cdv ct ks hks us ws hl hlw => ?bind) sc_law_state_bits ?len (fun cdv A outer s H vs Q E hr h => ⟨_, (by exact (pss_cons (ps_asg (pv 1) (k_gtup (K := K) rfl rfl (pgs_cons (pg_name (i := 2) sc_law_state_bits.nd rfl (Or.inl rfl)) (pgs_cons (pg_name (i := 3) sc_law_state_bits.nd rfl (Or.inl rfl)) (pgs_cons (pg_name (i := 4) sc_law_state_bits.nd rfl (Or.inl rfl)) pgs_nil)))))
      (pss_one (ps_ret (pe_op (k_add (K := K) rfl) (pe_op (k_add (K := K) rfl) (pe_cl C_law_word_bits hr (by decide) (fun σ => passAt (takes_of rfl rfl rfl rfl) σ) (pa_cons (pv 2) (pa_cons (pe_op op_subA (pv 0) pe_int) pa_nil))) (pe_cl C_law_word_bits hr (by decide) (fun σ => passAt (takes_of rfl rfl rfl rfl) σ) (pa_cons (pv 3) (pa_cons (pv 0) pa_nil)))) (pe_cl C_law_words_bits hr (by decide) (fun σ => passAt (takes_of rfl rfl rfl rfl) σ) (pa_cons (pv 4) (pa_cons (pv 0) pa_nil)))))))), ?_⟩)
  case bind =>
    obtain rfl : ks = ([] : List Str) := by simpa using hks
    · have hl2 : us.length = 2 := by simp only [List.length_append, List.length_cons, List.length_nil] at hl hlw; omega
      match us, hl2, ws, hlw with
      | [_, _], _, [], _ => rfl
  case len =>
    intro vs H Q E h
    obtain ⟨_, _, rfl, _⟩ := h
    rfl
  obtain ⟨x0, x1, rfl, h⟩ := h
  refine i_start [some x0, some x1, none, none, none] rfl ?_
  obtain ⟨W, m, C, G, t, a, ns, rfl, rfl, wm, hl, ht, h1, g⟩ := h
  have wle := wm.le
  repeat walk_at "s"
  refine i_gtup (.inl (.inl ht)) rfl ?_
  repeat walk_at "s"
  refine ⟨C, W - 2, rfl, by rw [show ((W : Int) - 2) = ((W - 2 : Nat) : Int) by omega], by omega, fun p H1 hp ep s1 => ?_⟩
  repeat walk_at "s"
  refine ⟨G, W, rfl, rfl, by omega, fun p2 H2 hp2 ep2 s2 => ?_⟩
  refine i_addLN (s2 _ _ ep) ep2 (by rw [vi_len, vi_len, bitsL_len, bitsL_len]; exact sz (by omega)) fun p3 H3 hp3 ep3 s3 => ?_
  rw [vi_app] at ep3
  repeat walk_at "s"
  refine ⟨a, ns, W, rfl, rfl, ((s1.trans s2).trans s3).seq h1, by omega, by omega, fun p4 H4 hp4 ep4 s4 => ?_⟩
  refine i_addLN (s4 _ _ ep3) ep4 (by rw [vi_len, vi_len, List.length_append, bitsL_len, bitsL_len, bitsAll_len]; exact sz (by rcases wm with ⟨rfl, rfl⟩ | ⟨rfl, rfl⟩ <;> simp [hl])) fun p5 H5 hp5 ep5 s5 => ?_
  have s14 := ((s1.trans s2).trans s3).trans s4
  refine g p5 H5 (none_of s14 hp5) ?_ (s14.trans s5)
  rw [ep5, vi_app]
  simp [stateBits, bitsAll]
abbrev sp_state : Sp := S2 fun x y H Q E => ∃ (b L : Addr) (W m : Nat), x = .ref b ∧ y = .int W ∧ WM W m ∧ Bag H b L ∧ ∀ (C G : Int) (ns : List Int) t l H', 0 ≤ C → C < m → 0 ≤ G → G < 2 ^ W → ns.length = m → (∀ n ∈ ns, 0 ≤ n ∧ n ≤ 2 ^ W - 1) → Bag H' b L → Same (Hid b H) H' → H' t = some (.tup [.int C, .int G, .ref l]) → H' l = some (.lst (vi ns)) → l ≠ b → t ≠ b → Q (.ref t) H'
theorem cl_law_state (nb : Nb mg) (D_law_state : DefAt K mg "_law_state" st_law_state) (C_law_draw : Cl P w K mg base 3 "_law_draw" ["_law_bag", "_law_many"] sp_draw [[]]) (C_law_pick : Cl P w K mg base 6 "_law_pick" ["_law_bag", "_law_some"] sp_pick [[]])  : Cl P w K mg base 9 "_law_state" ["_law_bag", "_law_wide"] sp_state [[]] := by
  obtain ⟨f, fd, hm, F⟩ := D_law_state
  refine cl_of (k := 8) hm F (fun kV doc pm an cdv ct ks hks us ws hl hlw => ?bind) sc_law_state ?len (fun cdv A outer s H vs Q E hr h => ⟨_, (by exact (pss_cons (ps_asg (pe_tup (pa_cons (pe_op op_shlA pe_int (pv 1)) (pa_cons (pe_op op_shlA pe_int (pe_op op_subA (pv 1) pe_int)) pa_nil))) (k_gtup (K := K) rfl rfl (pgs_cons (pg_name (i := 3) sc_law_state.nd rfl (Or.inr rfl)) (pgs_cons (pg_name (i := 4) sc_law_state.nd rfl (Or.inl rfl)) pgs_nil))))
      (pss_cons (ps_set (i := 2) sc_law_state.nd rfl (Or.inl rfl) (pe_cl C_law_pick hr (by decide) (fun σ => passAt (takes_of rfl rfl rfl rfl) σ) (pa_cons (pv 0) (pa_cons (pe_lst (pa_cons (pe_cl C_law_draw hr (by decide) (fun σ => passAt (takes_of rfl rfl rfl rfl) σ) (pa_cons (pv 0) (pa_cons (pv 3) pa_nil))) (pa_cons pe_int (pa_cons (pe_cl C_law_draw hr (by decide) (fun σ => passAt (takes_of rfl rfl rfl rfl) σ) (pa_cons (pv 0) (pa_cons (pv 3) pa_nil))) pa_nil)))) pa_nil))))
      (pss_one (ps_ret (pe_tup (pa_cons (pe_cl C_law_draw hr (by decide) (fun σ => passAt (takes_of rfl rfl rfl rfl) σ) (pa_cons (pv 0) (pa_cons (pv 4) pa_nil))) (pa_cons (pv 2) (pa_cons (pe_lc (own := [("_law_k", 5)]) rfl sc_law_state.nd (pi_rg1 rfl nb.n_range (pa_cons (pv 4) pa_nil)) (blkOk_by (own := [("_law_k", 5)]) (N := ["_law_bag", "_law_wide", "_law_held", "_law_top", "_law_many", "_law_k"]) (sc := defScope st_law_state) (by decide +kernel)) (fun _ _ _ _ _ => (pg_name (i := 5) sc_law_state.nd rfl (Or.inl rfl))) (fun _ _ _ _ _ => pts_nil) (fun _ _ _ _ _ => (pe_cl C_law_draw hr (by decide) (fun σ => passN σ) (pa_cons (pv 0) (pa_cons (pv 3) pa_nil))))) pa_nil))))))))), ?_⟩)
  case bind =>
    obtain rfl : ks = ([] : List Str) := by simpa using hks
    · have hl2 : us.length = 2 := by simp only [List.length_append, List.length_cons, List.length_nil] at hl hlw; omega
      match us, hl2, ws, hlw with
      | [_, _], _, [], _ => rfl
  case len =>
    intro vs H Q E h
    obtain ⟨_, _, rfl, _⟩ := h
    rfl
  obtain ⟨x0, x1, rfl, h⟩ := h
  refine i_start [some x0, some x1, none, none, none, none] rfl ?_
  obtain ⟨b, L, W, m, rfl, rfl, wm, hb, g⟩ := h
  have wle := wm.le
  have top : (1 : Int) ≤ 2 ^ W ∧ (2 : Int) ^ W < 2 ^ 30 := by rcases wm with ⟨rfl, rfl⟩ | ⟨rfl, rfl⟩ <;> decide
  repeat walk_at "s"
  refine i_shl1 (by omega) wm.pw ?_
  repeat walk_at "s"
  refine i_shl1 (by omega) wm.p2 ?_
  repeat walk_at "s"
  refine i_newT fun T0 H0 hT0 eT0 s0 => ?_
  refine i_gtup (.inl (.inl eT0)) rfl ?_
  repeat walk_at "s"
  have hb0 := hb.same s0
  refine ⟨b, L, _, rfl, rfl, hb0, by omega, by omega, fun g1 H1 _ _ hb1 s1 => ?_⟩
  repeat walk_at "s"
  refine ⟨b, L, _, rfl, rfl, hb1, by omega, by omega, fun g2 H2 _ _ hb2 s2 => ?_⟩
  repeat walk_at "s"
  refine i_newL fun p H3 hp ep s3 => ?_
  repeat walk_at "s"
  refine ⟨b, L, p, _, rfl, rfl, hb2.same s3, ep, hb2.ne hp, by simp, by simp, fun i v H4 hv hb4 s4 => ?_⟩
  obtain ⟨G, rfl, G0, G1⟩ : ∃ G : Int, v = .int G ∧ 0 ≤ G ∧ G < 2 ^ W := by
    match i, hv with
    | 0, hv => cases hv; exact ⟨_, rfl, by assumption, by assumption⟩
    | 1, hv => cases hv; exact ⟨_, rfl, by omega, by omega⟩
    | 2, hv => cases hv; exact ⟨_, rfl, by assumption, by assumption⟩
    | k + 3, hv => simp at hv
  have sA := hid_trans (hid_then (hid_trans (then_hid s0 s1) s2) s3) s4
  repeat walk_at "s"
  refine ⟨b, L, _, rfl, rfl, hb4, by omega, by omega, fun C H5 C0 C1 hb5 s5 => ?_⟩
  repeat walk_at "s"
  refine ⟨_, rfl, by omega, by omega, fun D hD => ?_⟩
  have hDb : D ≠ b := hb5.ne hD
  have hDL : D ≠ L := hb5.neL hD
  have hDn : H D = none := by
    cases e : H D with
    | none => rfl
    | some o => rw [hid_get (hid_trans sA s5) e hDb] at hD; cases hD
  refine lc_G (fun i H' => Bag H' b L ∧ Same (Hid b H) H' ∧ ∃ ns : List Int, H' D = some (.lst (vi ns)) ∧ ns.length = i ∧ ∀ n ∈ ns, 0 ≤ n ∧ n ≤ 2 ^ W - 1) ⟨hb5.same (upd_new hD), hid_then (hid_trans sA s5) (upd_new hD), [], upd_same, rfl, by simp⟩ (fun _ _ _ _ => trivial) ?_ ?_
  · rintro i x H6 H7 hi ⟨hb6, s6, ns, eD, hl, hn⟩ ⟨rfl, rfl⟩
    dsimp only [wipe, List.map, List.set]
    repeat walk_at "s"
    refine ⟨rfl, ?_⟩
    repeat walk_at "s"
    refine ⟨b, L, _, rfl, rfl, hb6, by omega, by omega, fun d H8 d0 d1 hb8 s8 => ?_⟩
    have eD8 := hid_get s8 eD hDb
    refine ⟨vi ns, eD8, by rw [vi_len]; exact Nat.lt_of_lt_of_le (show ns.length < 100 by omega) (sz (by omega)), ?_, ?_, ns ++ [d], ?_, by rw [List.length_append, hl]; rfl, ?_⟩
    · exact hb8.upd hDb hDL
    · exact fun a u e => by
        rw [upd_ne (by rintro rfl; rw [of_hid e] at hDn; cases hDn)]
        exact (hid_trans s6 s8) a u e
    · rw [upd_same]
      simp [vi]
    · intro n hn'
      rcases List.mem_append.mp hn' with hn' | hn'
      · exact hn n hn'
      · obtain rfl : n = d := by simpa using hn'
        omega
  · rintro H6 ⟨hb6, s6, ns, eD, hl, hn⟩
    repeat walk_at "s"
    refine i_newT fun t H7 ht et s7 => ?_
    repeat walk_at "s"
    exact g C G ns t D H7 C0 C1 G0 G1 (by omega) hn (hb6.same s7) (hid_then s6 s7) et (s7 _ _ eD) hDb (hb6.ne ht)
end
end T

set_option Elab.async false
set_option linter.all false
set_option maxRecDepth 100000
set_option maxHeartbeats 4000000
/-! k62, part G: what is told. -/
namespace T
open PySem PySem.Spec PyProof.Rows L2 VI VC VG VD VE VF VH VL VM
theorem sc_law_told : FnScope ["_law_which", "_law_wide", "_law_spot", "_law_held", "_law_store", "e"] ["_law_which", "_law_wide", "_law_spot", "_law_held", "_law_store"] (defScope st_law_told) := ⟨rfl, rfl, rfl, by decide +kernel, rfl, by decide +kernel, by decide +kernel⟩
theorem sc_law_read : FnScope ["_law_wide", "_law_bits", "e"] ["_law_wide", "_law_bits"] (defScope st_law_read) := ⟨rfl, rfl, rfl, by decide +kernel, rfl, by decide +kernel, by decide +kernel⟩
set_option hygiene false in
local macro_rules | `(tactic| walk_at "s") => `(tactic| with_reducible first | refine i_seq ?_ | refine i_asg ?_ | refine i_ret ?_ | refine i_drop ?_ | refine i_next ?_ | refine i_nx ?_ | refine i_rt ?_ | refine i_ct ?_ | refine i_bk ?_ | refine i_op ?_ | refine i_un ?_ | refine i_cons ?_ | refine i_nil ?_ | refine i_cb ?_ | refine i_calls ?_ | refine i_c ?_ | refine i_ifs ?_ | refine i_ife ?_ | refine i_test ?_ | refine i_tb ?_ | refine i_bl ?_ | refine i_and ?_ | refine i_or ?_ | refine i_not ?_ | refine i_andv ?_ | refine i_orv ?_ | refine i_notv ?_ | refine i_chain ?_ | refine i_addI ?_ | refine i_sub ?_ | refine i_neg ?_ | refine i_eqI ?_ | refine i_eqS ?_ | refine i_neI ?_ | refine i_neS ?_ | refine i_lt ?_ | refine i_le ?_ | refine i_gt ?_ | refine i_ge ?_ | refine i_isN ?_ | refine i_notN ?_ | refine i_gnil ?_ | refine i_gcons ?_ | refine i_gsub ?_ | refine i_par ?_ | refine i_par3 ?_ | refine i_two ?_ | refine i_three ?_ | refine i_slice ?_ | refine i_nopart ?_ | refine i_part ?_ | refine i_ip ?_ | refine i_yes ?_ | refine i_iftrue ?_ | refine i_ifnt ?_ | refine i_ifnf ?_ | refine i_iffalse ?_ | refine i_S1 ?_ | refine i_S2 ?_ | refine i_S3 ?_ | refine i_S4 ?_ | refine i_S5 ?_ | refine i_intC ?_ | refine i_tupN ?_ | refine i_lstN ?_ | refine i_raise ?_ | refine i_for ?_ | refine i_lc ?_ | refine i_rg1 ?_ | refine i_rg2 ?_ | refine i_rg3 ?_ | refine i_sq ?_ | refine i_en ?_ | refine i_rv ?_ | refine i_callks ?_ | refine i_star ?_ | refine i_lc2 ?_ | walk_at "v")
set_option hygiene false in
local macro_rules | `(tactic| walk_at "v") => `(tactic| with_reducible first | refine i_v0 ?_ | refine i_v1 ?_ | refine i_v2 ?_ | refine i_v3 ?_ | refine i_v4 ?_ | refine i_v5 ?_ | refine i_v6 ?_ | refine i_v7 ?_ | refine i_v8 ?_ | refine i_v9 ?_ | refine i_v10 ?_ | refine i_v11 ?_ | refine i_v12 ?_ | refine i_v13 ?_ | refine i_v14 ?_ | refine i_v15 ?_ | refine i_v16 ?_ | refine i_v17 ?_ | refine i_v18 ?_ | refine i_v19 ?_ | refine i_v20 ?_ | refine i_v21 ?_ | refine i_v22 ?_ | refine i_v23 ?_ | refine i_v24 ?_ | refine i_v25 ?_ | refine i_v26 ?_ | refine i_v27 ?_ | refine i_v28 ?_ | refine i_v29 ?_ | refine i_n0 ?_ | refine i_n1 ?_ | refine i_n2 ?_ | refine i_n3 ?_ | refine i_n4 ?_ | refine i_n5 ?_ | refine i_n6 ?_ | refine i_n7 ?_ | refine i_n8 ?_ | refine i_n9 ?_ | refine i_n10 ?_ | refine i_n11 ?_ | refine i_n12 ?_ | refine i_n13 ?_ | refine i_n14 ?_ | refine i_n15 ?_ | refine i_n16 ?_ | refine i_n17 ?_ | refine i_n18 ?_ | refine i_n19 ?_ | refine i_n20 ?_ | refine i_n21 ?_ | refine i_n22 ?_ | refine i_n23 ?_ | refine i_n24 ?_ | refine i_n25 ?_ | refine i_n26 ?_ | refine i_n27 ?_ | refine i_n28 ?_ | refine i_n29 ?_)
def PairOut (s : Str) (v : V) (Q : VK) (H : Hp) : Prop := ∀ t H', H t = none → Same H H' → H' t = some (.tup [.str s, v]) → Q (.ref t) H'
theorem i_xf {a C dd : Addr} {f : Str} {te : TE} {σ : L2.St} {H : Hp} {Q : VK} (h : te σ H fun x H1 => x = .ref a ∧ ∃ (fs : List (Str × V)) (v : V), H1 dd = some (.xd fs) ∧ fs.lookup f = some v ∧ Q v H1) (e : (fun (x : V) (H1 : Hp) => x = .ref a ∧ ∃ (fs : List (Str × V)) (v : V), H1 dd = some (.xd fs) ∧ fs.lookup f = some v ∧ Q v H1) = fun x H1 => x = .ref a ∧ (Value.ref C) = .ref C ∧ ∃ (dd' : Addr) (fs : List (Str × V)) (v : V), some dd = some dd' ∧ H1 dd' = some (.xd fs) ∧ fs.lookup f = some v ∧ Q v H1 := by
    funext x H1
    exact propext ⟨fun ⟨a, fs, v, b, c, d⟩ => ⟨a, rfl, _, fs, v, rfl, b, c, d⟩, fun ⟨a, _, _, fs, v, e, b, c, d⟩ => ⟨a, fs, v, by cases e; exact b, c, d⟩⟩) : tXf a (.ref C) (some dd) C f te σ H Q := by
  unfold tXf
  rw [e] at h
  exact h
section
variable {P : Program} {w : World} {K : PySem.W.Frag} {mg : Str → Option Value} {base : Heap} {C_InvalidNumber C_BadBits C_BadWords : Addr}
abbrev sp_told : PySem.W.Frag → Sp := fun K => S5 fun x x0 x1 x2 x3 H Q E => ∃ (n : Int) (dw dc dh ds : PyData), x = .int n ∧ Rp K H x0 dw ∧ Rp K H x1 dc ∧ Rp K H x2 dh ∧ Rp K H x3 ds ∧ StateCk (fun v => PairOut "InvalidNumber" v Q H) (fun i => PairOut "BadWords" (.int i) Q H) x0 x1 x2 dw dc dh ds
  (fun W m l => ∃ (C G : Int) (ns : List Int), dc = .int C ∧ dh = .int G ∧ l = ns.map .int ∧ (n = 0 → StepOut Q H (stepF m (2 ^ W) C G ns)) ∧ (n ≠ 0 → NewLst (vi (stateBits W C G ns)) Q H))
theorem cl_law_told (nb : Nb mg) (D_law_told : DefAt K mg "_law_told" st_law_told) (C_plain_step : Cl P w K mg base 15 "plain_step" ["width", "counter", "hand", "cells"] (sp_step K C_InvalidNumber C_BadWords) [[], ["counter", "hand", "cells"]]) (C_state_bits : Cl P w K mg base 15 "state_bits" ["width", "counter", "hand", "cells"] (sp_sbits K C_InvalidNumber C_BadWords) [[]]) (R_BadWords : ExcC P K mg "BadWords" ["at"] C_BadWords) (R_InvalidNumber : ExcC P K mg "InvalidNumber" ["value"] C_InvalidNumber) (X_ii : PySem.W.exmOne K (.ref C_InvalidNumber) (.ref C_InvalidNumber) = some true) (X_wi : PySem.W.exmOne K (.ref C_BadWords) (.ref C_InvalidNumber) = some false) (X_ww : PySem.W.exmOne K (.ref C_BadWords) (.ref C_BadWords) = some true) : Cl P w K mg base 18 "_law_told" ["_law_which", "_law_wide", "_law_spot", "_law_held", "_law_store"] (sp_told K) [[]] := by
  obtain ⟨f, fd, hm, F⟩ := D_law_told
  refine cl_of (k := 17) hm F (fun kV doc pm an cdv ct ks hks us ws hl hlw => ?bind) sc_law_told ?len (fun cdv A outer s H vs Q E hr h => ⟨_, (by exact (pss_one (ps_tryA rfl rfl sc_law_told.nd (takes_of rfl rfl rfl rfl) (fun W pn xe tk hpo => (pss_cons (ps_if (pt_cmpR (k_eq (K := K) rfl hr.units) (pv 0) pe_int (nomark _))
      (pss_one (ps_ret (pe_cl C_plain_step hr (by decide) (fun σ => passAt tk σ) (pa_cons (pv 1) (pa_cons (pv 2) (pa_cons (pv 3) (pa_cons (pv 4) pa_nil)))))))
      pss_nil)
      (pss_one (ps_ret (pe_cl C_state_bits hr (by decide) (fun σ => passAt tk σ) (pa_cons (pv 1) (pa_cons (pv 2) (pa_cons (pv 3) (pa_cons (pv 4) pa_nil))))))))) (HdsA.cons (i := 5) ⟨rfl, by decide, Or.inl R_InvalidNumber.gC⟩ rfl rfl (fun a oe cls d pn hz hf => (pss_one (ps_ret (pe_tup (pa_cons pe_str (pa_cons (pe_xfA R_InvalidNumber.xf (R_InvalidNumber.no _ (by simp)) hz hf (pv 5)) pa_nil)))))) (HdsA.cons (i := 5) ⟨rfl, by decide, Or.inl R_BadWords.gC⟩ rfl rfl (fun a oe cls d pn hz hf => (pss_one (ps_ret (pe_tup (pa_cons pe_str (pa_cons (pe_xfA R_BadWords.xf (R_BadWords.no _ (by simp)) hz hf (pv 5)) pa_nil)))))) HdsA.nil))))), ?_⟩)
  case bind =>
    obtain rfl : ks = ([] : List Str) := by simpa using hks
    · have hl2 : us.length = 5 := by simp only [List.length_append, List.length_cons, List.length_nil] at hl hlw; omega
      match us, hl2, ws, hlw with
      | [_, _, _, _, _], _, [], _ => rfl
  case len =>
    intro vs H Q E h
    obtain ⟨_, _, _, _, _, rfl, _⟩ := h
    rfl
  obtain ⟨x0, x1, x2, x3, x4, rfl, h⟩ := h
  intro pn xe
  refine i_start [some x0, some x1, some x2, some x3, some x4, none] rfl ?_
  obtain ⟨n, dw, dc, dh, ds, rfl, hw, hc, hh, hs, h⟩ := h
  repeat walk_at "s"
  refine i_if (fun e => ?_) (fun e => ?_)
  all_goals
    repeat walk_at "s"
    refine ⟨dw, dc, dh, ds, hw, hc, hh, hs, h.imp (fun v g => ?_) (fun i g => ?_) fun W m l e1 wm e2 e3 e4 e5 ag g => ?_⟩
  rotate_left 2
  · obtain ⟨C, G, ns, a1, a2, a3, g, _⟩ := g
    exact ⟨C, G, ns, a1, a2, a3, g e⟩
  rotate_left 2
  · obtain ⟨C, G, ns, a1, a2, a3, _, g⟩ := g
    exact ⟨C, G, ns, a1, a2, a3, g e⟩
  all_goals
    intro d H' s' ed
  · refine ⟨true, X_ii, fun _ a oe pn _ => ?_, (fun z => nomatch z)⟩
    dsimp only [List.set]
    repeat walk_at "s"
    refine i_xf ?_
    repeat walk_at "s"
    refine ⟨rfl, _, v, ed, rfl, ?_⟩
    repeat walk_at "s"
    refine i_newT fun t H3 ht et s3 => ?_
    repeat walk_at "s"
    exact g t H3 (none_of s' ht) (s'.trans s3) et
  · refine ⟨false, X_wi, (fun z => nomatch z), fun _ => ⟨true, X_ww, fun _ a oe pn _ => ?_, (fun z => nomatch z)⟩⟩
    dsimp only [List.set]
    repeat walk_at "s"
    refine i_xf ?_
    repeat walk_at "s"
    refine ⟨rfl, _, .int i, ed, rfl, ?_⟩
    repeat walk_at "s"
    refine i_newT fun t H3 ht et s3 => ?_
    repeat walk_at "s"
    exact g t H3 (none_of s' ht) (s'.trans s3) et
  · refine ⟨true, X_ii, fun _ a oe pn _ => ?_, (fun z => nomatch z)⟩
    dsimp only [List.set]
    repeat walk_at "s"
    refine i_xf ?_
    repeat walk_at "s"
    refine ⟨rfl, _, v, ed, rfl, ?_⟩
    repeat walk_at "s"
    refine i_newT fun t H3 ht et s3 => ?_
    repeat walk_at "s"
    exact g t H3 (none_of s' ht) (s'.trans s3) et
  · refine ⟨false, X_wi, (fun z => nomatch z), fun _ => ⟨true, X_ww, fun _ a oe pn _ => ?_, (fun z => nomatch z)⟩⟩
    dsimp only [List.set]
    repeat walk_at "s"
    refine i_xf ?_
    repeat walk_at "s"
    refine ⟨rfl, _, .int i, ed, rfl, ?_⟩
    repeat walk_at "s"
    refine i_newT fun t H3 ht et s3 => ?_
    repeat walk_at "s"
    exact g t H3 (none_of s' ht) (s'.trans s3) et
abbrev sp_read : PySem.W.Frag → Sp := fun K => S2 fun x0 x1 H Q E => ∃ (dw db : PyData), Rp K H x0 dw ∧ Rp K H x1 db ∧ BitsCk (fun v => PairOut "InvalidNumber" v Q H) (fun i => PairOut "BadBits" (.int i) Q H) x0 dw db (fun W m l => ∃ ns : List Int, l = ns.map .int ∧ StepOut Q H (stateF W m ns))
theorem cl_law_read (nb : Nb mg) (D_law_read : DefAt K mg "_law_read" st_law_read) (C_state_of : Cl P w K mg base 18 "state_of" ["width", "bits"] (sp_sof K C_InvalidNumber C_BadBits) [[]]) (R_BadBits : ExcC P K mg "BadBits" ["at"] C_BadBits) (R_InvalidNumber : ExcC P K mg "InvalidNumber" ["value"] C_InvalidNumber) (X_ii : PySem.W.exmOne K (.ref C_InvalidNumber) (.ref C_InvalidNumber) = some true) (X_bi : PySem.W.exmOne K (.ref C_BadBits) (.ref C_InvalidNumber) = some false) (X_bb : PySem.W.exmOne K (.ref C_BadBits) (.ref C_BadBits) = some true) : Cl P w K mg base 21 "_law_read" ["_law_wide", "_law_bits"] (sp_read K) [[]] := by
  obtain ⟨f, fd, hm, F⟩ := D_law_read
  refine cl_of (k := 20) hm F (fun kV doc pm an cdv ct ks hks us ws hl hlw => ?bind) sc_law_read ?len (fun cdv A outer s H vs Q E hr h => ⟨_, (by exact (pss_one (ps_tryA rfl rfl sc_law_read.nd (takes_of rfl rfl rfl rfl) (fun W pn xe tk hpo => (pss_one (ps_ret (pe_cl C_state_of hr (by decide) (fun σ => passAt tk σ) (pa_cons (pv 0) (pa_cons (pv 1) pa_nil)))))) (HdsA.cons (i := 2) ⟨rfl, by decide, Or.inl R_InvalidNumber.gC⟩ rfl rfl (fun a oe cls d pn hz hf => (pss_one (ps_ret (pe_tup (pa_cons pe_str (pa_cons (pe_xfA R_InvalidNumber.xf (R_InvalidNumber.no _ (by simp)) hz hf (pv 2)) pa_nil)))))) (HdsA.cons (i := 2) ⟨rfl, by decide, Or.inl R_BadBits.gC⟩ rfl rfl (fun a oe cls d pn hz hf => (pss_one (ps_ret (pe_tup (pa_cons pe_str (pa_cons (pe_xfA R_BadBits.xf (R_BadBits.no _ (by simp)) hz hf (pv 2)) pa_nil)))))) HdsA.nil))))), ?_⟩)
  case bind =>
    obtain rfl : ks = ([] : List Str) := by simpa using hks
    · have hl2 : us.length = 2 := by simp only [List.length_append, List.length_cons, List.length_nil] at hl hlw; omega
      match us, hl2, ws, hlw with
      | [_, _], _, [], _ => rfl
  case len =>
    intro vs H Q E h
    obtain ⟨_, _, rfl, _⟩ := h
    rfl
  obtain ⟨x0, x1, rfl, h⟩ := h
  intro pn xe
  refine i_start [some x0, some x1, none] rfl ?_
  obtain ⟨dw, db, hw, hb, h⟩ := h
  repeat walk_at "s"
  refine ⟨dw, db, hw, hb, h.imp (fun v g => ?_) (fun i g => ?_) fun W m l e1 wm e4 e5 ag g => g⟩
  all_goals
    intro d H' s' ed
  · refine ⟨true, X_ii, fun _ a oe pn _ => ?_, (fun z => nomatch z)⟩
    dsimp only [List.set]
    repeat walk_at "s"
    refine i_xf ?_
    repeat walk_at "s"
    refine ⟨rfl, _, v, ed, rfl, ?_⟩
    repeat walk_at "s"
    refine i_newT fun t H3 ht et s3 => ?_
    repeat walk_at "s"
    exact g t H3 (none_of s' ht) (s'.trans s3) et
  · refine ⟨false, X_bi, (fun z => nomatch z), fun _ => ⟨true, X_bb, fun _ a oe pn _ => ?_, (fun z => nomatch z)⟩⟩
    dsimp only [List.set]
    repeat walk_at "s"
    refine i_xf ?_
    repeat walk_at "s"
    refine ⟨rfl, _, .int i, ed, rfl, ?_⟩
    repeat walk_at "s"
    refine i_newT fun t H3 ht et s3 => ?_
    repeat walk_at "s"
    exact g t H3 (none_of s' ht) (s'.trans s3) et
end
end T

set_option Elab.async false
set_option linter.all false
set_option maxRecDepth 100000
set_option maxHeartbeats 4000000
/-! k62, part H: bent states. -/
namespace T
open PySem PySem.Spec PyProof.Rows L2 VI VC VG VD VE VF VH VL VM
theorem sc_law_bent : FnScope ["_law_bag", "_law_wide", "_law_state_here", "_law_ways", "_law_spot", "_law_held", "_law_store", "_law_top", "_law_many", "_law_due", "_law_at", "_law_k"] ["_law_bag", "_law_wide", "_law_state_here"] (defScope st_law_bent) := ⟨rfl, rfl, rfl, by decide +kernel, rfl, by decide +kernel, by decide +kernel⟩
theorem sc_law_bent_bits : FnScope ["_law_bag", "_law_bits", "_law_at", "_law_found"] ["_law_bag", "_law_bits"] (defScope st_law_bent_bits) := ⟨rfl, rfl, rfl, by decide +kernel, rfl, by decide +kernel, by decide +kernel⟩
set_option hygiene false in
local macro_rules | `(tactic| walk_at "s") => `(tactic| with_reducible first | refine i_seq ?_ | refine i_asg ?_ | refine i_ret ?_ | refine i_drop ?_ | refine i_next ?_ | refine i_nx ?_ | refine i_rt ?_ | refine i_ct ?_ | refine i_bk ?_ | refine i_op ?_ | refine i_un ?_ | refine i_cons ?_ | refine i_nil ?_ | refine i_cb ?_ | refine i_calls ?_ | refine i_c ?_ | refine i_ifs ?_ | refine i_ife ?_ | refine i_test ?_ | refine i_tb ?_ | refine i_bl ?_ | refine i_and ?_ | refine i_or ?_ | refine i_not ?_ | refine i_andv ?_ | refine i_orv ?_ | refine i_notv ?_ | refine i_chain ?_ | refine i_addI ?_ | refine i_sub ?_ | refine i_neg ?_ | refine i_eqI ?_ | refine i_eqS ?_ | refine i_neI ?_ | refine i_neS ?_ | refine i_lt ?_ | refine i_le ?_ | refine i_gt ?_ | refine i_ge ?_ | refine i_isN ?_ | refine i_notN ?_ | refine i_gnil ?_ | refine i_gcons ?_ | refine i_gsub ?_ | refine i_par ?_ | refine i_par3 ?_ | refine i_two ?_ | refine i_three ?_ | refine i_slice ?_ | refine i_nopart ?_ | refine i_part ?_ | refine i_ip ?_ | refine i_yes ?_ | refine i_iftrue ?_ | refine i_ifnt ?_ | refine i_ifnf ?_ | refine i_iffalse ?_ | refine i_S1 ?_ | refine i_S2 ?_ | refine i_S3 ?_ | refine i_S4 ?_ | refine i_S5 ?_ | refine i_intC ?_ | refine i_tupN ?_ | refine i_lstN ?_ | refine i_raise ?_ | refine i_for ?_ | refine i_lc ?_ | refine i_rg1 ?_ | refine i_rg2 ?_ | refine i_rg3 ?_ | refine i_sq ?_ | refine i_en ?_ | refine i_rv ?_ | refine i_callks ?_ | refine i_star ?_ | refine i_lc2 ?_ | walk_at "v")
set_option hygiene false in
local macro_rules | `(tactic| walk_at "v") => `(tactic| with_reducible first | refine i_v0 ?_ | refine i_v1 ?_ | refine i_v2 ?_ | refine i_v3 ?_ | refine i_v4 ?_ | refine i_v5 ?_ | refine i_v6 ?_ | refine i_v7 ?_ | refine i_v8 ?_ | refine i_v9 ?_ | refine i_v10 ?_ | refine i_v11 ?_ | refine i_v12 ?_ | refine i_v13 ?_ | refine i_v14 ?_ | refine i_v15 ?_ | refine i_v16 ?_ | refine i_v17 ?_ | refine i_v18 ?_ | refine i_v19 ?_ | refine i_v20 ?_ | refine i_v21 ?_ | refine i_v22 ?_ | refine i_v23 ?_ | refine i_v24 ?_ | refine i_v25 ?_ | refine i_v26 ?_ | refine i_v27 ?_ | refine i_v28 ?_ | refine i_v29 ?_ | refine i_n0 ?_ | refine i_n1 ?_ | refine i_n2 ?_ | refine i_n3 ?_ | refine i_n4 ?_ | refine i_n5 ?_ | refine i_n6 ?_ | refine i_n7 ?_ | refine i_n8 ?_ | refine i_n9 ?_ | refine i_n10 ?_ | refine i_n11 ?_ | refine i_n12 ?_ | refine i_n13 ?_ | refine i_n14 ?_ | refine i_n15 ?_ | refine i_n16 ?_ | refine i_n17 ?_ | refine i_n18 ?_ | refine i_n19 ?_ | refine i_n20 ?_ | refine i_n21 ?_ | refine i_n22 ?_ | refine i_n23 ?_ | refine i_n24 ?_ | refine i_n25 ?_ | refine i_n26 ?_ | refine i_n27 ?_ | refine i_n28 ?_ | refine i_n29 ?_)
theorem hid_up {b : Addr} {H H1 : Hp} (s : Same (Hid b H) H1) : Same (Hid b H) (Hid b H1) := fun a u e => to_hid (s a u e) (hid_ne e)
def OkD (K : PySem.W.Frag) (H : Hp) (v : V) (d : PyData) : Prop := Dp K H v d ∧ Sm 7000 2 d
def OkV (K : PySem.W.Frag) (H : Hp) (v : V) (d : PyData) : Prop := Rp K H v d ∧ Sm 7000 2 d
theorem OkD.v {K : PySem.W.Frag} {H : Hp} {v : V} {d : PyData} (h : OkD K H v d) : OkV K H v d := ⟨rp_of h.1, h.2⟩
theorem OkD.same {K : PySem.W.Frag} {H H1 : Hp} {v : V} {d : PyData} (h : OkD K H v d) (s : Same H H1) : OkD K H1 v d := ⟨dp_same s d v h.1, h.2⟩
theorem OkV.same {K : PySem.W.Frag} {H H1 : Hp} {v : V} {d : PyData} (h : OkV K H v d) (s : Same H H1) : OkV K H1 v d := ⟨rp_same s h.1, h.2⟩
theorem okd_non {K : PySem.W.Frag} {H : Hp} : OkD K H .non .none := ⟨.non, Sm.non.mono (by decide) (by decide)⟩
theorem okd_bl {K : PySem.W.Frag} {H : Hp} (b : Bool) : OkD K H (.bl b) (.bool b) := ⟨.bl b, (Sm.bl b).mono (by decide) (by decide)⟩
theorem okd_int {K : PySem.W.Frag} {H : Hp} {i : Int} (h : i.natAbs < 10 ^ 40) : OkD K H (.int i) (.int i) := ⟨.int i, (Sm.int h).mono (by decide) (by decide)⟩
theorem sm_str1 : Sm 20 0 (.str "0") ∧ Sm 20 0 (.str "1") ∧ Sm 20 0 (.str "01") ∧ Sm 20 0 (.str "3") ∧ Sm 20 0 (.str "4") := by
  refine ⟨?_, ?_, ?_, ?_, ?_⟩ <;> exact ⟨by decide +kernel, by decide +kernel, by decide +kernel, by decide +kernel, .inl (by decide +kernel), .inl (by decide +kernel)⟩
theorem sm_name : Sm 20 0 (.str "InvalidNumber") ∧ Sm 20 0 (.str "BadWords") ∧ Sm 20 0 (.str "BadBits") := by
  refine ⟨?_, ?_, ?_⟩ <;> exact ⟨by decide +kernel, by decide +kernel, by decide +kernel, by decide +kernel, .inl (by decide +kernel), .inl (by decide +kernel)⟩
theorem okd_str {K : PySem.W.Frag} {H : Hp} {s : Str} (h : Sm 20 0 (.str s)) : OkD K H (.str s) (.str s) := ⟨.str s, h.mono (by decide) (by decide)⟩
/-- a leaf, or a short list of leaves -/
def Leaf (K : PySem.W.Frag) (H : Hp) (v : V) (d : PyData) : Prop := Dp K H v d ∧ Sm 200 1 d
theorem leaf_int {K : PySem.W.Frag} {H : Hp} {i : Int} (h : i.natAbs < 10 ^ 40) : Leaf K H (.int i) (.int i) := ⟨.int i, (Sm.int h).mono (by decide) (by decide)⟩
theorem leaf_non {K : PySem.W.Frag} {H : Hp} : Leaf K H .non .none := ⟨.non, Sm.non.mono (by decide) (by decide)⟩
theorem leaf_bl {K : PySem.W.Frag} {H : Hp} (b : Bool) : Leaf K H (.bl b) (.bool b) := ⟨.bl b, (Sm.bl b).mono (by decide) (by decide)⟩
theorem leaf_str {K : PySem.W.Frag} {H : Hp} {s : Str} (h : Sm 20 0 (.str s)) : Leaf K H (.str s) (.str s) := ⟨.str s, h.mono (by decide) (by decide)⟩
theorem sm_one {i : Int} (h : i.natAbs < 10 ^ 40) : ∀ d ∈ [PyData.int i], Sm 134 0 d ∧ d.hasDict = false := by
  intro d hd
  obtain rfl : d = PyData.int i := by simpa using hd
  exact ⟨Sm.int h, by simp [PyData.hasDict]⟩
theorem leaf_list1 {K : PySem.W.Frag} {H : Hp} {p : Addr} {i : Int} (e : H p = some (.lst [.int i])) (h : i.natAbs < 10 ^ 40) : Leaf K H (.ref p) (.list [.int i]) :=
  ⟨.lst (.inl (.inl e)) (.cons (.int i) .nil), (Sm.list (N := 1) (sm_one h) (Nat.le_refl _)).mono (by decide) (by decide)⟩
theorem leaf_tup1 {K : PySem.W.Frag} {H : Hp} {p : Addr} {i : Int} (e : H p = some (.tup [.int i])) (h : i.natAbs < 10 ^ 40) : Leaf K H (.ref p) (.tuple [.int i]) :=
  ⟨.tup (.inl (.inl e)) (.cons (.int i) .nil), (Sm.tup (N := 1) (sm_one h) (Nat.le_refl _)).mono (by decide) (by decide)⟩
theorem Leaf.ok {K : PySem.W.Frag} {H : Hp} {v : V} {d : PyData} (h : Leaf K H v d) : OkD K H v d := ⟨h.1, h.2.mono (by decide) (by decide)⟩
theorem Leaf.same {K : PySem.W.Frag} {H H1 : Hp} {v : V} {d : PyData} (h : Leaf K H v d) (s : Same H H1) : Leaf K H1 v d := ⟨dp_same s d v h.1, h.2⟩
/-- a list of such -/
inductive Leaves (K : PySem.W.Frag) (H : Hp) : List V → List PyData → Prop
  | nil : Leaves K H [] []
  | cons {v : V} {vs : List V} {d : PyData} {ds : List PyData} : Leaf K H v d → Leaves K H vs ds → Leaves K H (v :: vs) (d :: ds)
theorem Leaves.app {K : PySem.W.Frag} {H : Hp} : ∀ {vs ws : List V} {ds es : List PyData}, Leaves K H vs ds → Leaves K H ws es → Leaves K H (vs ++ ws) (ds ++ es)
  | _, _, _, _, .nil, h => h
  | _, _, _, _, .cons a b, h => .cons a (b.app h)
theorem Leaves.same {K : PySem.W.Frag} {H H1 : Hp} (s : Same H H1) : ∀ {vs : List V} {ds : List PyData}, Leaves K H vs ds → Leaves K H1 vs ds
  | _, _, .nil => .nil
  | _, _, .cons a b => .cons (a.same s) (Leaves.same s b)
theorem leaves_ints {K : PySem.W.Frag} {H : Hp} : ∀ {ns : List Int}, (∀ n ∈ ns, n.natAbs < 10 ^ 40) → Leaves K H (vi ns) (ns.map .int)
  | [], _ => .nil
  | n :: ns, h => .cons (leaf_int (h n (List.mem_cons_self ..))) (leaves_ints fun n hn => h n (List.mem_cons_of_mem _ hn))
theorem Leaves.dp {K : PySem.W.Frag} {H : Hp} : ∀ {vs : List V} {ds : List PyData}, Leaves K H vs ds → DpAll K H vs ds
  | _, _, .nil => .nil
  | _, _, .cons a b => .cons a.1 b.dp
theorem Leaves.sm {K : PySem.W.Frag} {H : Hp} : ∀ {vs : List V} {ds : List PyData}, Leaves K H vs ds → ∀ d ∈ ds, Sm 200 1 d ∧ d.hasDict = false
  | _, _, .nil, _, h => by cases h
  | _, _, .cons a b, d, h => by
    rcases List.mem_cons.mp h with rfl | h
    · exact ⟨a.2, dp_noDict _ _ a.1⟩
    · exact b.sm d h
theorem Leaves.list {K : PySem.W.Frag} {H : Hp} {vs : List V} {ds : List PyData} {p : Addr} (h : Leaves K H vs ds) (e : H p = some (.lst vs)) (hl : ds.length ≤ 30) : OkD K H (.ref p) (.list ds) :=
  ⟨.lst (.inl (.inl e)) h.dp, (Sm.list h.sm hl).mono (by decide) (by decide)⟩
theorem Leaves.tup {K : PySem.W.Frag} {H : Hp} {vs : List V} {ds : List PyData} {p : Addr} {b : Bool} (h : Leaves K H vs ds) (e : Sk b K H p vs) (hl : ds.length ≤ 30) : OkD K H (.ref p) (seqD b ds) := by
  cases b with
  | true => exact ⟨.lst e h.dp, (Sm.list h.sm hl).mono (by decide) (by decide)⟩
  | false => exact ⟨.tup e h.dp, (Sm.tup h.sm hl).mono (by decide) (by decide)⟩
/-- what is due -/
def DueN (K : PySem.W.Frag) (H : Hp) (u v : V) : Prop := ∃ t dv, u = .ref t ∧ H t = some (.tup [.str "InvalidNumber", v]) ∧ OkD K H v dv
def DueW (s : Str) (H : Hp) (u : V) (i : Int) : Prop := ∃ t, u = .ref t ∧ H t = some (.tup [.str s, .int i]) ∧ i.natAbs < 10 ^ 40
theorem DueN.same {K : PySem.W.Frag} {H H1 : Hp} {u v : V} (h : DueN K H u v) (s : Same H H1) : DueN K H1 u v := by
  obtain ⟨t, dv, a, b, c⟩ := h
  exact ⟨t, dv, a, s _ _ b, c.same s⟩
theorem DueW.same {s' : Str} {H H1 : Hp} {u : V} {i : Int} (h : DueW s' H u i) (s : Same H H1) : DueW s' H1 u i := by
  obtain ⟨t, a, b, c⟩ := h
  exact ⟨t, a, s _ _ b, c⟩
theorem DueN.ne {K : PySem.W.Frag} {H : Hp} {u v : V} (h : DueN K H u v) : u ≠ .non := by
  obtain ⟨t, dv, rfl, _⟩ := h
  exact fun z => nomatch z
theorem DueW.ne {s' : Str} {H : Hp} {u : V} {i : Int} (h : DueW s' H u i) : u ≠ .non := by
  obtain ⟨t, rfl, _⟩ := h
  exact fun z => nomatch z
def Q3 (W m : Nat) (H : Hp) (u : V) (ds : PyData) : Prop := (isRow ds m = false ∧ DueW "BadWords" H u (-1)) ∨ ∃ l, items ds = some l ∧ l.length = m ∧ Ck 0 (2 ^ W - 1) l False fun k => DueW "BadWords" H u k
def Q2 (K : PySem.W.Frag) (W m : Nat) (H : Hp) (u : V) (x2 : V) (dh ds : PyData) : Prop := (inI dh 0 (2 ^ W - 1) = false ∧ DueN K H u x2) ∨ (inI dh 0 (2 ^ W - 1) = true ∧ Q3 W m H u ds)
def Q1 (K : PySem.W.Frag) (W m : Nat) (H : Hp) (u : V) (x1 x2 : V) (dc dh ds : PyData) : Prop := (inI dc 0 ((m : Int) - 1) = false ∧ DueN K H u x1) ∨ (inI dc 0 ((m : Int) - 1) = true ∧ Q2 K W m H u x2 dh ds)
theorem Q3.same {W m : Nat} {H H1 : Hp} {u : V} {ds : PyData} (h : Q3 W m H u ds) (s : Same H H1) : Q3 W m H1 u ds := by
  rcases h with ⟨a, b⟩ | ⟨l, a, b, c⟩
  · exact .inl ⟨a, b.same s⟩
  · refine .inr ⟨l, a, b, ?_⟩
    rcases c with ⟨_, c⟩ | ⟨k, c, d⟩
    · exact c.elim
    · exact .inr ⟨k, c, d.same s⟩
theorem Q2.same {K : PySem.W.Frag} {W m : Nat} {H H1 : Hp} {u x2 : V} {dh ds : PyData} (h : Q2 K W m H u x2 dh ds) (s : Same H H1) : Q2 K W m H1 u x2 dh ds := by
  rcases h with ⟨a, b⟩ | ⟨a, b⟩
  · exact .inl ⟨a, b.same s⟩
  · exact .inr ⟨a, b.same s⟩
theorem Q1.same {K : PySem.W.Frag} {W m : Nat} {H H1 : Hp} {u x1 x2 : V} {dc dh ds : PyData} (h : Q1 K W m H u x1 x2 dc dh ds) (s : Same H H1) : Q1 K W m H1 u x1 x2 dc dh ds := by
  rcases h with ⟨a, b⟩ | ⟨a, b⟩
  · exact .inl ⟨a, b.same s⟩
  · exact .inr ⟨a, b.same s⟩
theorem Q3.ne {W m : Nat} {H : Hp} {u : V} {ds : PyData} (h : Q3 W m H u ds) : u ≠ .non := by
  rcases h with ⟨a, b⟩ | ⟨l, a, b, c⟩
  · exact b.ne
  · rcases c with ⟨_, c⟩ | ⟨k, c, d⟩
    · exact c.elim
    · exact d.ne
theorem Q2.ne {K : PySem.W.Frag} {W m : Nat} {H : Hp} {u x2 : V} {dh ds : PyData} (h : Q2 K W m H u x2 dh ds) : u ≠ .non := by
  rcases h with ⟨a, b⟩ | ⟨a, b⟩
  · exact b.ne
  · exact b.ne
theorem Q1.ne {K : PySem.W.Frag} {W m : Nat} {H : Hp} {u x1 x2 : V} {dc dh ds : PyData} (h : Q1 K W m H u x1 x2 dc dh ds) : u ≠ .non := by
  rcases h with ⟨a, b⟩ | ⟨a, b⟩
  · exact b.ne
  · exact b.ne
/-- FB of a row with a bad item in it -/
theorem fb_mid {lo hi : Int} {a r : List PyData} {d : PyData} (h : ∀ x ∈ a, inI x lo hi = true) (hd : inI d lo hi = false) : FB lo hi (a ++ d :: r) a.length := by
  refine ⟨⟨d, by simp, hd⟩, fun j hj x e => ?_⟩
  rw [List.getElem?_append_left hj] at e
  exact h x (List.mem_of_getElem? e)
theorem inI_map {lo hi : Int} {ns : List Int} (h : ∀ n ∈ ns, lo ≤ n ∧ n ≤ hi) : ∀ x ∈ ns.map PyData.int, inI x lo hi = true := by
  intro x hx
  obtain ⟨n, hn, rfl⟩ := List.mem_map.mp hx
  have := h n hn
  simp [inI, this]
/-- a value that is out of bounds -/
def Pk (K : PySem.W.Frag) (H : Hp) (lo hi : Int) (v : V) : Prop := ∃ d, Leaf K H v d ∧ inI d lo hi = false
theorem Pk.same {K : PySem.W.Frag} {H H1 : Hp} {lo hi : Int} {v : V} (h : Pk K H lo hi v) (s : Same H H1) : Pk K H1 lo hi v := by
  obtain ⟨d, a, b⟩ := h
  exact ⟨d, a.same s, b⟩
theorem pk_int {K : PySem.W.Frag} {H : Hp} {lo hi i : Int} (h : i < lo ∨ hi < i) (h2 : i.natAbs < 10 ^ 40) : Pk K H lo hi (.int i) := ⟨_, leaf_int h2, by simp [inI]; omega⟩
theorem pk_non {K : PySem.W.Frag} {H : Hp} {lo hi : Int} : Pk K H lo hi .non := ⟨_, leaf_non, rfl⟩
theorem pk_bl {K : PySem.W.Frag} {H : Hp} {lo hi : Int} {b : Bool} : Pk K H lo hi (.bl b) := ⟨_, leaf_bl b, rfl⟩
theorem pk_str {K : PySem.W.Frag} {H : Hp} {lo hi : Int} {s : Str} (h : Sm 20 0 (.str s)) : Pk K H lo hi (.str s) := ⟨_, leaf_str h, rfl⟩
theorem pk_list {K : PySem.W.Frag} {H : Hp} {lo hi : Int} {p : Addr} {i : Int} (e : H p = some (.lst [.int i])) (h : i.natAbs < 10 ^ 40) : Pk K H lo hi (.ref p) := ⟨_, leaf_list1 e h, rfl⟩
theorem pk_tup {K : PySem.W.Frag} {H : Hp} {lo hi : Int} {p : Addr} {i : Int} (e : H p = some (.tup [.int i])) (h : i.natAbs < 10 ^ 40) : Pk K H lo hi (.ref p) := ⟨_, leaf_tup1 e h, rfl⟩
theorem mem_all {xs : List V} {P : V → Prop} (h : ∀ v ∈ xs, P v) {i : Nat} {v : V} (e : xs[i]? = some v) : P v := h v (List.mem_of_getElem? e)
end T

set_option Elab.async false
set_option linter.all false
set_option maxRecDepth 100000
set_option maxHeartbeats 8000000
/-! k62, part I: bent states, the def. -/
namespace T
open PySem PySem.Spec PyProof.Rows L2 VI VC VG VD VE VF VH VL VM
set_option hygiene false in
local macro_rules | `(tactic| walk_at "s") => `(tactic| with_reducible first | refine i_seq ?_ | refine i_asg ?_ | refine i_ret ?_ | refine i_drop ?_ | refine i_next ?_ | refine i_nx ?_ | refine i_rt ?_ | refine i_ct ?_ | refine i_bk ?_ | refine i_op ?_ | refine i_un ?_ | refine i_cons ?_ | refine i_nil ?_ | refine i_cb ?_ | refine i_calls ?_ | refine i_c ?_ | refine i_ifs ?_ | refine i_ife ?_ | refine i_test ?_ | refine i_tb ?_ | refine i_bl ?_ | refine i_and ?_ | refine i_or ?_ | refine i_not ?_ | refine i_andv ?_ | refine i_orv ?_ | refine i_notv ?_ | refine i_chain ?_ | refine i_addI ?_ | refine i_sub ?_ | refine i_neg ?_ | refine i_eqI ?_ | refine i_eqS ?_ | refine i_neI ?_ | refine i_neS ?_ | refine i_lt ?_ | refine i_le ?_ | refine i_gt ?_ | refine i_ge ?_ | refine i_isN ?_ | refine i_notN ?_ | refine i_gnil ?_ | refine i_gcons ?_ | refine i_gsub ?_ | refine i_par ?_ | refine i_par3 ?_ | refine i_two ?_ | refine i_three ?_ | refine i_slice ?_ | refine i_nopart ?_ | refine i_part ?_ | refine i_ip ?_ | refine i_yes ?_ | refine i_iftrue ?_ | refine i_ifnt ?_ | refine i_ifnf ?_ | refine i_iffalse ?_ | refine i_S1 ?_ | refine i_S2 ?_ | refine i_S3 ?_ | refine i_S4 ?_ | refine i_S5 ?_ | refine i_intC ?_ | refine i_tupN ?_ | refine i_lstN ?_ | refine i_raise ?_ | refine i_for ?_ | refine i_lc ?_ | refine i_rg1 ?_ | refine i_rg2 ?_ | refine i_rg3 ?_ | refine i_sq ?_ | refine i_en ?_ | refine i_rv ?_ | refine i_callks ?_ | refine i_star ?_ | refine i_lc2 ?_ | walk_at "v")
set_option hygiene false in
local macro_rules | `(tactic| walk_at "v") => `(tactic| with_reducible first | refine i_v0 ?_ | refine i_v1 ?_ | refine i_v2 ?_ | refine i_v3 ?_ | refine i_v4 ?_ | refine i_v5 ?_ | refine i_v6 ?_ | refine i_v7 ?_ | refine i_v8 ?_ | refine i_v9 ?_ | refine i_v10 ?_ | refine i_v11 ?_ | refine i_v12 ?_ | refine i_v13 ?_ | refine i_v14 ?_ | refine i_v15 ?_ | refine i_v16 ?_ | refine i_v17 ?_ | refine i_v18 ?_ | refine i_v19 ?_ | refine i_v20 ?_ | refine i_v21 ?_ | refine i_v22 ?_ | refine i_v23 ?_ | refine i_v24 ?_ | refine i_v25 ?_ | refine i_v26 ?_ | refine i_v27 ?_ | refine i_v28 ?_ | refine i_v29 ?_ | refine i_n0 ?_ | refine i_n1 ?_ | refine i_n2 ?_ | refine i_n3 ?_ | refine i_n4 ?_ | refine i_n5 ?_ | refine i_n6 ?_ | refine i_n7 ?_ | refine i_n8 ?_ | refine i_n9 ?_ | refine i_n10 ?_ | refine i_n11 ?_ | refine i_n12 ?_ | refine i_n13 ?_ | refine i_n14 ?_ | refine i_n15 ?_ | refine i_n16 ?_ | refine i_n17 ?_ | refine i_n18 ?_ | refine i_n19 ?_ | refine i_n20 ?_ | refine i_n21 ?_ | refine i_n22 ?_ | refine i_n23 ?_ | refine i_n24 ?_ | refine i_n25 ?_ | refine i_n26 ?_ | refine i_n27 ?_ | refine i_n28 ?_ | refine i_n29 ?_)
def JJ (H0 : Hp) (b L D : Addr) (H' : Hp) : Prop := Bag H' b L ∧ Same (Hid b H0) H' ∧ (∃ ws : List Int, H' D = some (.lst (vi ws)) ∧ ws.length = 4) ∧ D ≠ b
theorem JJ.same {H0 H H1 : Hp} {b L D : Addr} (h : JJ H0 b L D H) (s : Same H H1) : JJ H0 b L D H1 := by
  obtain ⟨a, c, ⟨ws, d, e⟩, f⟩ := h
  exact ⟨a.same s, hid_then c s, ⟨ws, s _ _ d, e⟩, f⟩
theorem JJ.draw {H0 H H1 : Hp} {b L D : Addr} (h : JJ H0 b L D H) (hb : Bag H1 b L) (s : Same (Hid b H) H1) : JJ H0 b L D H1 := by
  obtain ⟨a, c, ⟨ws, d, e⟩, f⟩ := h
  exact ⟨hb, hid_trans c s, ⟨ws, hid_get s d f, e⟩, f⟩
def A3 (K : PySem.W.Frag) (W m : Nat) (H : Hp) (l : Addr) (v3 u : V) : Prop := (u = .non ∧ v3 = .ref l) ∨ ∃ ds, OkV K H v3 ds ∧ Q3 W m H u ds
def A2 (K : PySem.W.Frag) (W m : Nat) (H : Hp) (G : Int) (l : Addr) (v2 v3 u : V) : Prop := (u = .non ∧ v2 = .int G ∧ v3 = .ref l) ∨ ∃ dh ds, OkD K H v2 dh ∧ OkV K H v3 ds ∧ Q2 K W m H u v2 dh ds
def A1 (K : PySem.W.Frag) (W m : Nat) (H : Hp) (C G : Int) (l : Addr) (v1 v2 v3 u : V) : Prop := (u = .non ∧ v1 = .int C ∧ v2 = .int G ∧ v3 = .ref l) ∨ ∃ dc dh ds, OkD K H v1 dc ∧ OkD K H v2 dh ∧ OkV K H v3 ds ∧ Q1 K W m H u v1 v2 dc dh ds
theorem pow10 : (10 : Int) ^ (20 : Int).toNat = 100000000000000000000 := by decide
theorem pow30 : (10 : Int) ^ (30 : Int).toNat = 1000000000000000000000000000000 := by decide
theorem hid_none {b r : Addr} {H H1 : Hp} (s : Same (Hid b H) H1) (h : H1 r = none) (n : r ≠ b) : H r = none := by
  cases e : H r with
  | none => rfl
  | some o => rw [hid_get s e n] at h; cases h
theorem i_ifsC {c : TT} {t u : TS} {D : Ends} {σ : L2.St} {H : Hp} (Pb : Bool → Hp → Prop) (h : ∀ R : Bool → Hp → Prop, (∀ b H, Pb b H → R b H) → c σ H R) (ht : ∀ H, Pb true H → t D σ H) (hu : ∀ H, Pb false H → u D σ H) : tIfS c t u D σ H :=
  h (fun b H1 => if b = true then t D σ H1 else u D σ H1) fun b H p => by
    cases b with
    | true => exact iteT (ht H p)
    | false => exact iteF (hu H p)
section
variable {P : Program} {w : World} {K : PySem.W.Frag} {mg : Str → Option Value} {base : Heap} {C_InvalidNumber C_BadBits C_BadWords : Addr}
abbrev sp_bent : PySem.W.Frag → Sp := fun K => S3 fun x0 x1 x2 H Q E => ∃ (b L : Addr) (W m : Nat) (C G : Int) (ns : List Int) (t l : Addr), x0 = .ref b ∧ x1 = .int W ∧ x2 = .ref t ∧ WM W m ∧ Bag H b L ∧ 0 ≤ C ∧ C < m ∧ 0 ≤ G ∧ G ≤ 2 ^ W - 1 ∧ ns.length = m ∧ (∀ n ∈ ns, 0 ≤ n ∧ n ≤ 2 ^ W - 1) ∧
  H t = some (.tup [.int C, .int G, .ref l]) ∧ H l = some (.lst (vi ns)) ∧ l ≠ b ∧ t ≠ b ∧
  ∀ r H' y0 y1 y2 y3 u dw dc dh ds, H r = none → Bag H' b L → Same (Hid b H) H' → H' r = some (.tup [y0, y1, y2, y3, u]) → OkD K H' y0 dw → OkD K H' y1 dc → OkD K H' y2 dh → OkV K H' y3 ds →
    StateCk (fun v => DueN K H' u v) (fun i => DueW "BadWords" H' u i) y0 y1 y2 dw dc dh ds (fun _ _ _ => False) → Q (.ref r) H'
theorem cl_law_bent (nb : Nb mg) (D_law_bent : DefAt K mg "_law_bent" st_law_bent) (C_law_draw : Cl P w K mg base 3 "_law_draw" ["_law_bag", "_law_many"] sp_draw [[]]) (C_law_pick : Cl P w K mg base 6 "_law_pick" ["_law_bag", "_law_some"] sp_pick [[]])  : Cl P w K mg base 9 "_law_bent" ["_law_bag", "_law_wide", "_law_state_here"] (sp_bent K) [[]] := by
  obtain ⟨f, fd, hm, F⟩ := D_law_bent
  refine cl_of (k := 8) hm F (fun kV doc pm an cdv ct ks hks us ws hl hlw => ?bind) sc_law_bent ?len (fun cdv A outer s H vs Q E hr h => ⟨_, (by exact (pss_cons (ps_asg (pv 2) (k_gtup (K := K) rfl rfl (pgs_cons (pg_name (i := 4) sc_law_bent.nd rfl (Or.inl rfl)) (pgs_cons (pg_name (i := 5) sc_law_bent.nd rfl (Or.inl rfl)) (pgs_cons (pg_name (i := 6) sc_law_bent.nd rfl (Or.inl rfl)) pgs_nil)))))
      (pss_cons (ps_par3 (i := 7) (j := 8) (l := 9) rfl sc_law_bent.nd rfl rfl rfl (by decide) (by decide) (by decide) rfl rfl rfl (pa_cons (pe_op op_shlA pe_int (pv 1)) (pa_cons (pe_op op_shlA pe_int (pe_op op_subA (pv 1) pe_int)) (pa_cons pe_non pa_nil))) (by rfl))
      (pss_cons (ps_setLc (i := 3) (own := [("_law_k", 11)]) rfl sc_law_bent.nd rfl rfl (sw_true rfl rfl rfl (by decide +kernel)) (pi_rg1 rfl nb.n_range (pa_cons pe_int pa_nil)) (blkOk_by (own := [("_law_k", 11)]) (N := ["_law_bag", "_law_wide", "_law_state_here", "_law_ways", "_law_spot", "_law_held", "_law_store", "_law_top", "_law_many", "_law_due", "_law_at", "_law_k"]) (sc := defScope st_law_bent) (by decide +kernel)) (fun _ _ _ _ _ => (pg_name (i := 11) sc_law_bent.nd rfl (Or.inl rfl))) (fun _ _ _ _ _ => pts_nil) (fun _ _ _ _ _ => (pe_cl C_law_draw hr (by decide) (fun σ => passN σ) (pa_cons (pv 0) (pa_cons pe_int pa_nil)))))
      (pss_cons (ps_asg pe_int (pg_sub (pv 3) (pe_cl C_law_draw hr (by decide) (fun σ => passAt (takes_of rfl rfl rfl rfl) σ) (pa_cons (pv 0) (pa_cons pe_int pa_nil))) set_list))
      (pss_cons (ps_if (pt_cmpR (k_eq (K := K) rfl hr.units) (pe_ix (k_ix (K := K) rfl) (pv 3) pe_int (fun _ _ => rfl)) pe_int (nomark _))
      (pss_one (ps_if (pt_cmpR (k_eq (K := K) rfl hr.units) (pe_cl C_law_draw hr (by decide) (fun σ => passAt (takes_of rfl rfl rfl rfl) σ) (pa_cons (pv 0) (pa_cons pe_int pa_nil))) pe_int (nomark _))
      (pss_one (ps_par (i := 6) (j := 9) rfl sc_law_bent.nd rfl rfl (by decide) rfl rfl (pa_cons (pe_cl C_law_pick hr (by decide) (fun σ => passAt (takes_of rfl rfl rfl rfl) σ) (pa_cons (pv 0) (pa_cons (pe_lst (pa_cons (k_sl (K := K) rfl (pv 6) (po_some pe_int) po_none) (pa_cons (pe_op (k_add (K := K) rfl) (pv 6) (pe_lst (pa_cons pe_int pa_nil))) (pa_cons pe_non (pa_cons pe_int (pa_cons pe_str (pa_cons pe_dnewK (pa_cons pe_bl (pa_cons (pe_op (k_add (K := K) rfl) (pv 6) (pe_lst (pa_cons pe_non pa_nil))) (pa_cons (pe_lst pa_nil) pa_nil)))))))))) pa_nil))) (pa_cons (pe_tup (pa_cons pe_str (pa_cons (pe_un un_negA pe_int) pa_nil))) pa_nil)) (by rfl)))
      (pss_cons (ps_set (i := 10) sc_law_bent.nd rfl (Or.inl rfl) (pe_cl C_law_draw hr (by decide) (fun σ => passAt (takes_of rfl rfl rfl rfl) σ) (pa_cons (pv 0) (pa_cons (pv 8) pa_nil))))
      (pss_cons (ps_set (i := 6) sc_law_bent.nd rfl (Or.inl rfl) (pe_op (k_add (K := K) rfl) (pe_op (k_add (K := K) rfl) (k_sl (K := K) rfl (pv 6) po_none (po_some (pv 10))) (pe_lst (pa_cons (pe_cl C_law_pick hr (by decide) (fun σ => passAt (takes_of rfl rfl rfl rfl) σ) (pa_cons (pv 0) (pa_cons (pe_lst (pa_cons (pv 7) (pa_cons (pe_un un_negA pe_int) (pa_cons pe_bl (pa_cons pe_non (pa_cons pe_str (pa_cons (pe_lst (pa_cons pe_int pa_nil)) (pa_cons (pe_op op_powA pe_int pe_int) (pa_cons pe_bl pa_nil))))))))) pa_nil))) pa_nil))) (k_sl (K := K) rfl (pv 6) (po_some (pe_op (k_add (K := K) rfl) (pv 10) pe_int)) po_none)))
      (pss_cons (ps_if (PW.pt (pw_and (pt_cmpR op_ltA (pe_op (k_add (K := K) rfl) (pv 10) pe_int) (pv 8) (nomark _)) (pw_and1 (pt_cmpR (k_eq (K := K) rfl hr.units) (pe_cl C_law_draw hr (by decide) (fun σ => passAt (takes_of rfl rfl rfl rfl) σ) (pa_cons (pv 0) (pa_cons pe_int pa_nil))) pe_int (nomark _)))))
      (pss_one (ps_asg (pv 7) (pg_sub (pv 6) (pe_op (k_add (K := K) rfl) (pv 10) pe_int) set_list)))
      pss_nil)
      (pss_one (ps_set (i := 9) sc_law_bent.nd rfl (Or.inl rfl) (pe_tup (pa_cons pe_str (pa_cons (pv 10) pa_nil))))))))))
      pss_nil)
      (pss_cons (ps_if (pt_cmpR (k_eq (K := K) rfl hr.units) (pe_ix (k_ix (K := K) rfl) (pv 3) pe_int (fun _ _ => rfl)) pe_int (nomark _))
      (pss_cons (ps_set (i := 5) sc_law_bent.nd rfl (Or.inl rfl) (pe_cl C_law_pick hr (by decide) (fun σ => passAt (takes_of rfl rfl rfl rfl) σ) (pa_cons (pv 0) (pa_cons (pe_lst (pa_cons (pv 7) (pa_cons (pe_un un_negA pe_int) (pa_cons pe_bl (pa_cons pe_bl (pa_cons pe_non (pa_cons pe_str (pa_cons (pe_lst (pa_cons pe_int pa_nil)) (pa_cons (pe_op (k_add (K := K) rfl) (pv 7) pe_int) (pa_cons (pe_un un_negA (pv 7)) pa_nil)))))))))) pa_nil))))
      (pss_one (ps_set (i := 9) sc_law_bent.nd rfl (Or.inl rfl) (pe_tup (pa_cons pe_str (pa_cons (pv 5) pa_nil))))))
      pss_nil)
      (pss_cons (ps_if (pt_cmpR (k_eq (K := K) rfl hr.units) (pe_ix (k_ix (K := K) rfl) (pv 3) pe_int (fun _ _ => rfl)) pe_int (nomark _))
      (pss_cons (ps_set (i := 4) sc_law_bent.nd rfl (Or.inl rfl) (pe_cl C_law_pick hr (by decide) (fun σ => passAt (takes_of rfl rfl rfl rfl) σ) (pa_cons (pv 0) (pa_cons (pe_lst (pa_cons (pv 8) (pa_cons (pe_un un_negA pe_int) (pa_cons pe_bl (pa_cons pe_bl (pa_cons pe_non (pa_cons pe_str (pa_cons (pe_tup (pa_cons pe_int pa_nil)) (pa_cons (pe_op (k_add (K := K) rfl) (pv 8) pe_int) pa_nil))))))))) pa_nil))))
      (pss_one (ps_set (i := 9) sc_law_bent.nd rfl (Or.inl rfl) (pe_tup (pa_cons pe_str (pa_cons (pv 4) pa_nil))))))
      pss_nil)
      (pss_cons (ps_if (PW.pt (pw_or (PW.pt (pw_and (pt_cmpR (k_eq (K := K) rfl hr.units) (pe_ix (k_ix (K := K) rfl) (pv 3) pe_int (fun _ _ => rfl)) pe_int (nomark _)) (pw_and1 (pt_cmpR (k_eq (K := K) rfl hr.units) (pe_cl C_law_draw hr (by decide) (fun σ => passAt (takes_of rfl rfl rfl rfl) σ) (pa_cons (pv 0) (pa_cons pe_int pa_nil))) pe_int (nomark _))))) (pw_or1 (pt_cmpR op_isNA (pv 9) pe_non (nomark _)))))
      (pss_cons (ps_set (i := 1) sc_law_bent.nd rfl (Or.inl rfl) (pe_cl C_law_pick hr (by decide) (fun σ => passAt (takes_of rfl rfl rfl rfl) σ) (pa_cons (pv 0) (pa_cons (pe_lst (pa_cons pe_int (pa_cons pe_int (pa_cons pe_int (pa_cons (pe_un un_negA pe_int) (pa_cons pe_bl (pa_cons pe_non (pa_cons pe_str (pa_cons (pe_lst (pa_cons pe_int pa_nil)) (pa_cons (pe_op op_powA pe_int pe_int) pa_nil)))))))))) pa_nil))))
      (pss_one (ps_set (i := 9) sc_law_bent.nd rfl (Or.inl rfl) (pe_tup (pa_cons pe_str (pa_cons (pv 1) pa_nil))))))
      pss_nil)
      (pss_one (ps_ret (pe_tup (pa_cons (pv 1) (pa_cons (pv 4) (pa_cons (pv 5) (pa_cons (pv 6) (pa_cons (pv 9) pa_nil))))))))))))))))), ?_⟩)
  case bind =>
    obtain rfl : ks = ([] : List Str) := by simpa using hks
    · have hl2 : us.length = 3 := by simp only [List.length_append, List.length_cons, List.length_nil] at hl hlw; omega
      match us, hl2, ws, hlw with
      | [_, _, _], _, [], _ => rfl
  case len =>
    intro vs H Q E h
    obtain ⟨_, _, _, rfl, _⟩ := h
    rfl
  obtain ⟨x0, x1, x2, rfl, h⟩ := h
  refine i_start [some x0, some x1, some x2, none, none, none, none, none, none, none, none, none] rfl ?_
  obtain ⟨b, L, W, m, C, G, ns, t, l, rfl, rfl, rfl, wm, hb, c0, c1, g0, g1, hl, hn, ht, hlst, lb, tb, g⟩ := h
  have wle := wm.le
  have top : (8 : Int) ≤ 2 ^ W ∧ (2 : Int) ^ W ≤ 16 := by rcases wm with ⟨rfl, rfl⟩ | ⟨rfl, rfl⟩ <;> decide
  generalize hT : (2 : Int) ^ W = T2 at top
  have hnat : ∀ n ∈ ns, n.natAbs < 10 ^ 40 := fun n h => by have := hn n h; rw [hT] at this; omega
  repeat walk_at "s"
  refine i_gtup (.inl (.inl ht)) rfl ?_
  repeat walk_at "s"
  refine i_shl1 (by omega) (wm.pw.trans hT) ?_
  repeat walk_at "s"
  refine i_shl1 (by omega) wm.p2 ?_
  repeat walk_at "s"
  dsimp only [List.set]
  repeat walk_at "s"
  refine ⟨_, rfl, by decide, by decide, fun D hD => ?_⟩
  have hDb : D ≠ b := hb.ne hD
  have hDL : D ≠ L := hb.neL hD
  refine lc_G (fun i H' => Bag H' b L ∧ Same (Hid b H) H' ∧ ∃ ws : List Int, H' D = some (.lst (vi ws)) ∧ ws.length = i) ⟨hb.same (upd_new hD), hid_then (hid_refl _ _) (upd_new hD), [], upd_same, rfl⟩ (fun _ _ _ _ => trivial) ?_ ?_
  · rintro i x H6 H7 hi ⟨hb6, s6, ws, eD, hl6⟩ ⟨rfl, rfl⟩
    dsimp only [wipe, List.map, List.set]
    repeat walk_at "s"
    refine ⟨rfl, ?_⟩
    repeat walk_at "s"
    refine ⟨b, L, _, rfl, rfl, hb6, by omega, by omega, fun d H8 d0 d1 hb8 s8 => ?_⟩
    have eD8 := hid_get s8 eD hDb
    have hi4 : i < 4 := hi
    refine ⟨vi ws, eD8, by rw [vi_len]; exact Nat.lt_of_lt_of_le (show ws.length < 100 by omega) (sz (by omega)), hb8.upd hDb hDL, ?_, ws ++ [d], ?_, by rw [List.length_append, hl6]; rfl⟩
    · exact fun a u e => by
        rw [upd_ne (by rintro rfl; rw [of_hid e] at hD; cases hD)]
        exact (hid_trans s6 s8) a u e
    · rw [upd_same]
      simp [vi]
  rintro H6 ⟨hb6, s6, ws, eD, hl6⟩
  have hl6 : ws.length = 4 := hl6
  repeat walk_at "s"
  refine ⟨b, L, _, rfl, rfl, hb6, by omega, by omega, fun d H7 d0 d1 hb7 s7 => ?_⟩
  have eD7 := hid_get s7 eD hDb
  refine i_setL eD7 (ixN_ok d0 (by rw [vi_len]; omega)) ?_
  rw [vi_set]
  have j0 : JJ H b L D (upd H7 D (.lst (vi (ws.set d.toNat 1)))) := by
    refine ⟨hb7.upd hDb hDL, ?_, ⟨_, upd_same, by rw [List.length_set]; exact hl6⟩, hDb⟩
    exact fun a u e => by
      rw [upd_ne (by rintro rfl; rw [of_hid e] at hD; cases hD)]
      exact (hid_trans s6 s7) a u e
  generalize upd H7 D (.lst (vi (ws.set d.toNat 1))) = H8 at j0
  with_reducible refine i_nx ?_
  have okI : ∀ {H' : Hp} {i : Int}, 0 ≤ i → i < 1000 → OkD K H' (.int i) (.int i) := fun a c => okd_int (by omega)
  -- what the state is
  have okS : ∀ {H' : Hp}, Same (Hid b H) H' → OkV K (Hid b H') (.ref l) (.list (ns.map .int)) := fun s' =>
    ((leaves_ints hnat).list (to_hid (hid_get s' hlst lb) lb) (by rw [List.length_map]; omega)).v
  have rowS : ∀ {ds : List PyData} {xs : List V} {H' : Hp} {p : Addr}, Leaves K (Hid b H') xs ds → (Hid b H') p = some (.lst xs) → ds.length ≠ m → ds.length ≤ 30 → ∃ d, OkV K (Hid b H') (.ref p) d ∧ isRow d m = false := fun h e n z =>
    ⟨_, (h.list e z).v, by simp [isRow, items]; omega⟩
  with_reducible refine i_seqC (fun σ H' => ∃ v3 u a', σ = [some (.ref b), some (.int W), some (.ref t), some (.ref D), some (.int C), some (.int G), some v3, some (.int T2), some (.int m), some u, a', none] ∧ JJ H b L D H' ∧ A3 K W m (Hid b H') l v3 u) ?_ ?_
  · rintro σ H9 ⟨v3, u, a', rfl, j9, a9⟩
    with_reducible refine i_seqC (fun σ H' => ∃ v2 v3 u a', σ = [some (.ref b), some (.int W), some (.ref t), some (.ref D), some (.int C), some v2, some v3, some (.int T2), some (.int m), some u, a', none] ∧ JJ H b L D H' ∧ A2 K W m (Hid b H') G l v2 v3 u) ?_ ?_
    rotate_left
    · intro R hR
      obtain ⟨hb8, s8, ⟨ws8, eD8, hl8⟩, _⟩ := id j9
      repeat walk_at "s"
      refine i_ixS (sk_lst eD8) (atI_vi (by decide) (by omega)) ?_
      repeat walk_at "s"
      refine i_if (fun _ => ?_) (fun _ => ?_)
      rotate_left
      · repeat walk_at "s"
        refine hR _ _ ⟨_, _, _, _, rfl, j9, ?_⟩
        rcases a9 with ⟨a, c⟩ | ⟨ds, a, c⟩
        · exact .inl ⟨a, rfl, c⟩
        · exact .inr ⟨.int G, ds, okI g0 (by omega), a, .inr ⟨by simp [inI]; omega, c⟩⟩
      repeat walk_at "s"
      refine i_newL fun p1 H10 hp1 e1 s10 => ?_
      have j10 := j9.same s10
      repeat walk_at "s"
      refine i_newL fun p2 H11 hp2 e2 s11 => ?_
      have j11 := j10.same s11
      repeat walk_at "s"
      have all : ∀ v ∈ [V.int T2, .int (-1), .bl true, .bl false, .non, .str "0", .ref p1, .int (T2 + 1), .int (-T2)], Pk K (Hid b H11) 0 (2 ^ W - 1) v := by
        intro v hv
        rw [hT]
        simp only [List.mem_cons, List.not_mem_nil, or_false] at hv
        rcases hv with rfl | rfl | rfl | rfl | rfl | rfl | rfl | rfl | rfl
        · exact pk_int (by omega) (by omega)
        · exact pk_int (by omega) (by decide)
        · exact pk_bl
        · exact pk_bl
        · exact pk_non
        · exact pk_str sm_str1.1
        · exact pk_list (to_hid (s11 _ _ e1) (j9.1.ne hp1)) (by decide)
        · exact pk_int (by omega) (by omega)
        · exact pk_int (by omega) (by omega)
      refine ⟨b, L, p2, _, rfl, rfl, j11.1, e2, j10.1.ne hp2, by simp, by simp, fun i v H12 hv hb12 s12 => ?_⟩
      obtain ⟨dv, lf, bad⟩ := mem_all all hv
      have j12 := j11.draw hb12 s12
      repeat walk_at "s"
      refine i_newT fun t2 H13 ht2 et2 s13 => ?_
      repeat walk_at "s"
      have lf13 := lf.same ((hid_up s12).trans (hid_same s13))
      have sA : Same (Hid b H9) (Hid b H13) := (hid_same (s10.trans s11)).trans ((hid_up s12).trans (hid_same s13))
      obtain ⟨ds, okv⟩ : ∃ ds, OkV K (Hid b H13) v3 ds := by
        rcases a9 with ⟨_, rfl⟩ | ⟨ds, a, c⟩
        · exact ⟨_, okS (j12.same s13).2.1⟩
        · exact ⟨ds, a.same sA⟩
      exact hR _ _ ⟨_, _, _, _, rfl, j12.same s13, .inr ⟨dv, ds, lf13.ok, okv, .inl ⟨bad, t2, dv, rfl, to_hid et2 (j12.1.ne ht2), lf13.ok⟩⟩⟩
    clear a9 j9
    rintro σ H9 ⟨v2, v3, u, a', rfl, j9, a9⟩
    with_reducible refine i_seqC (fun σ H' => ∃ v1 v2 v3 u a', σ = [some (.ref b), some (.int W), some (.ref t), some (.ref D), some v1, some v2, some v3, some (.int T2), some (.int m), some u, a', none] ∧ JJ H b L D H' ∧ A1 K W m (Hid b H') C G l v1 v2 v3 u) ?_ ?_
    rotate_left
    · intro R hR
      obtain ⟨hb8, s8, ⟨ws8, eD8, hl8⟩, _⟩ := id j9
      repeat walk_at "s"
      refine i_ixS (sk_lst eD8) (atI_vi (by decide) (by omega)) ?_
      repeat walk_at "s"
      refine i_if (fun _ => ?_) (fun _ => ?_)
      rotate_left
      · repeat walk_at "s"
        refine hR _ _ ⟨_, _, _, _, _, rfl, j9, ?_⟩
        rcases a9 with ⟨a, c, d⟩ | ⟨dh, ds, a, c, d⟩
        · exact .inl ⟨a, rfl, c, d⟩
        · exact .inr ⟨.int C, dh, ds, okI c0 (by omega), a, c, .inr ⟨by simp [inI]; omega, d⟩⟩
      repeat walk_at "s"
      refine i_newT fun p1 H10 hp1 e1 s10 => ?_
      have j10 := j9.same s10
      repeat walk_at "s"
      refine i_newL fun p2 H11 hp2 e2 s11 => ?_
      have j11 := j10.same s11
      repeat walk_at "s"
      have all : ∀ v ∈ [V.int m, .int (-1), .bl true, .bl false, .non, .str "0", .ref p1, .int ((m : Int) + 1)], Pk K (Hid b H11) 0 ((m : Int) - 1) v := by
        intro v hv
        simp only [List.mem_cons, List.not_mem_nil, or_false] at hv
        rcases hv with rfl | rfl | rfl | rfl | rfl | rfl | rfl | rfl
        · exact pk_int (by omega) (by omega)
        · exact pk_int (by omega) (by decide)
        · exact pk_bl
        · exact pk_bl
        · exact pk_non
        · exact pk_str sm_str1.1
        · exact pk_tup (to_hid (s11 _ _ e1) (j9.1.ne hp1)) (by decide)
        · exact pk_int (by omega) (by omega)
      refine ⟨b, L, p2, _, rfl, rfl, j11.1, e2, j10.1.ne hp2, by simp, by simp, fun i v H12 hv hb12 s12 => ?_⟩
      obtain ⟨dv, lf, bad⟩ := mem_all all hv
      have j12 := j11.draw hb12 s12
      repeat walk_at "s"
      refine i_newT fun t2 H13 ht2 et2 s13 => ?_
      repeat walk_at "s"
      have lf13 := lf.same ((hid_up s12).trans (hid_same s13))
      have sA : Same (Hid b H9) (Hid b H13) := (hid_same (s10.trans s11)).trans ((hid_up s12).trans (hid_same s13))
      obtain ⟨dh, ds, okh, okv⟩ : ∃ dh ds, OkD K (Hid b H13) v2 dh ∧ OkV K (Hid b H13) v3 ds := by
        rcases a9 with ⟨_, rfl, rfl⟩ | ⟨dh, ds, a, c, d⟩
        · exact ⟨_, _, okI g0 (by omega), okS (j12.same s13).2.1⟩
        · exact ⟨dh, ds, a.same sA, c.same sA⟩
      exact hR _ _ ⟨_, _, _, _, _, rfl, j12.same s13, .inr ⟨dv, dh, ds, lf13.ok, okh, okv, .inl ⟨bad, t2, dv, rfl, to_hid et2 (j12.1.ne ht2), lf13.ok⟩⟩⟩
    clear a9 j9
    rintro σ H9 ⟨v1, v2, v3, u, a', rfl, j9, a9⟩
    with_reducible refine i_seqC (fun σ H' => ∃ v0 u a' dw dc dh ds, σ = [some (.ref b), some v0, some (.ref t), some (.ref D), some v1, some v2, some v3, some (.int T2), some (.int m), some u, a', none] ∧ JJ H b L D H' ∧ OkD K H' v0 dw ∧ OkD K H' v1 dc ∧ OkD K H' v2 dh ∧ OkV K H' v3 ds ∧
      StateCk (fun v => DueN K H' u v) (fun i => DueW "BadWords" H' u i) v0 v1 v2 dw dc dh ds (fun _ _ _ => False)) ?_ ?_
    · rintro σ H10 ⟨v0, u, a', dw, dc, dh, ds, rfl, j10, k0, k1, k2, k3, st⟩
      repeat walk_at "s"
      refine i_newT fun r H11 hr er s11 => ?_
      repeat walk_at "s"
      have j11 := j10.same s11
      exact g r H11 _ _ _ _ _ _ _ _ _ (hid_none j10.2.1 hr (j10.1.ne hr)) j11.1 j11.2.1 er (k0.same s11) (k1.same s11) (k2.same s11) (k3.same s11) (st.imp (fun v d => d.same s11) (fun i d => d.same s11) fun _ _ _ _ _ _ _ _ _ _ z => z)
    · intro R hR
      with_reducible refine i_ifsC (fun bb H' => JJ H b L D H' ∧ A1 K W m (Hid b H') C G l v1 v2 v3 u ∧ (bb = false → u ≠ .non)) ?_ ?_ ?_
      · intro R2 hR2
        obtain ⟨hb8, s8, ⟨ws8, eD8, hl8⟩, _⟩ := id j9
        repeat walk_at "s"
        refine i_ixS (sk_lst eD8) (atI_vi (by decide) (by omega)) ?_
        repeat walk_at "s"
        refine i_if (fun _ => ?_) (fun _ => ?_)
        · repeat walk_at "s"
          refine ⟨b, L, _, rfl, rfl, hb8, by omega, by omega, fun d1 H10 _ _ hb10 s10 => ?_⟩
          have j10 := j9.draw hb10 s10
          have a10 : A1 K W m (Hid b H10) C G l v1 v2 v3 u := by
            rcases a9 with a | ⟨dc, dh, ds, a, c, d, e⟩
            · exact .inl a
            · exact .inr ⟨dc, dh, ds, a.same (hid_up s10), c.same (hid_up s10), d.same (hid_up s10), e.same (hid_up s10)⟩
          repeat walk_at "s"
          refine i_if (fun _ => ?_) (fun _ => ?_)
          · repeat walk_at "s"
            exact hR2 _ _ ⟨j10, a10, fun z => nomatch z⟩
          · repeat walk_at "s"
            exact hR2 _ _ ⟨j10, a10, fun z => of_decide_eq_false z⟩
        · repeat walk_at "s"
          exact hR2 _ _ ⟨j9, a9, fun z => of_decide_eq_false z⟩
      · clear a9 j9
        rintro H9 ⟨j9, a9, _⟩
        repeat walk_at "s"
        refine i_newL fun p1 H10 hp1 e1 s10 => ?_
        have j10 := j9.same s10
        repeat walk_at "s"
        refine i_pow ⟨by decide, by decide, by decide⟩ ?_
        rw [pow30]
        repeat walk_at "s"
        refine i_newL fun p2 H11 hp2 e2 s11 => ?_
        have j11 := j10.same s11
        repeat walk_at "s"
        have all : ∀ v ∈ [V.int 2, .int 5, .int 0, .int (-3), .bl true, .non, .str "3", .ref p1, .int 1000000000000000000000000000000], Pk K (Hid b H11) 3 4 v := by
          intro v hv
          simp only [List.mem_cons, List.not_mem_nil, or_false] at hv
          rcases hv with rfl | rfl | rfl | rfl | rfl | rfl | rfl | rfl | rfl
          · exact pk_int (by omega) (by decide)
          · exact pk_int (by omega) (by decide)
          · exact pk_int (by omega) (by decide)
          · exact pk_int (by omega) (by decide)
          · exact pk_bl
          · exact pk_non
          · exact pk_str sm_str1.2.2.2.1
          · exact pk_list (to_hid (s11 _ _ e1) (j9.1.ne hp1)) (by decide)
          · exact pk_int (by omega) (by decide)
        refine ⟨b, L, p2, _, rfl, rfl, j11.1, e2, j10.1.ne hp2, by simp, by simp, fun i v H12 hv hb12 s12 => ?_⟩
        obtain ⟨dv, lf, bad⟩ := mem_all all hv
        have j12 := j11.draw hb12 s12
        repeat walk_at "s"
        refine i_newT fun t2 H13 ht2 et2 s13 => ?_
        repeat walk_at "s"
        have lf13 := (lf.same ((hid_up s12).trans (hid_same s13))).same (hid_refl b H13)
        have sA : Same (Hid b H9) H13 := ((hid_same (s10.trans s11)).trans ((hid_up s12).trans (hid_same s13))).trans (hid_refl b H13)
        obtain ⟨dc, dh, ds, okc, okh, okv⟩ : ∃ dc dh ds, OkD K H13 v1 dc ∧ OkD K H13 v2 dh ∧ OkV K H13 v3 ds := by
          rcases a9 with ⟨_, rfl, rfl, rfl⟩ | ⟨dc, dh, ds, a, c, d, e⟩
          · exact ⟨_, _, _, okI c0 (by omega), okI g0 (by omega), (okS (j12.same s13).2.1).same (hid_refl b H13)⟩
          · exact ⟨dc, dh, ds, a.same sA, c.same sA, d.same sA⟩
        exact hR _ _ ⟨_, _, _, dv, dc, dh, ds, rfl, j12.same s13, lf13.ok, okc, okh, okv, .inl ⟨bad, t2, dv, rfl, et2, lf13.ok⟩⟩
      · clear a9 j9
        rintro H9 ⟨j9, a9, nz⟩
        repeat walk_at "s"
        have sA := hid_refl b H9
        rcases a9 with ⟨z, _⟩ | ⟨dc, dh, ds, a, c, d, e⟩
        · exact absurd z (nz rfl)
        · exact hR _ _ ⟨_, _, _, .int W, dc, dh, ds, rfl, j9, okI (by omega) (by omega), a.same sA, c.same sA, d.same sA, .inr ⟨W, m, rfl, wm, e.same sA⟩⟩
  · intro R hR
    obtain ⟨hb8, s8, ⟨ws8, eD8, hl8⟩, _⟩ := id j0
    repeat walk_at "s"
    refine i_ixS (sk_lst eD8) (atI_vi (by decide) (by omega)) ?_
    repeat walk_at "s"
    refine i_if (fun _ => ?_) (fun _ => ?_)
    rotate_left
    · repeat walk_at "s"
      exact hR _ _ ⟨_, _, _, rfl, j0, .inl ⟨rfl, rfl⟩⟩
    repeat walk_at "s"
    refine ⟨b, L, _, rfl, rfl, hb8, by omega, by omega, fun d1 H9 _ _ hb9 s9 => ?_⟩
    have j9 := j0.draw hb9 s9
    have hls : H9 l = some (.lst (vi ns)) := hid_get j9.2.1 hlst lb
    repeat walk_at "s"
    refine i_if (fun _ => ?_) (fun _ => ?_)
    · repeat walk_at "s"
      refine i_slLN (sk_lst hls) fun p1 H10 hp1 e1 s10 => ?_
      rw [vi_from (a := 1) (x := 1) (by omega) rfl] at e1
      repeat walk_at "s"
      refine i_newL fun p2 H11 hp2 e2 s11 => ?_
      repeat walk_at "s"
      have hls11 := (s10.trans s11) _ _ hls
      refine i_addLN hls11 e2 (sz (by rw [vi_len]; simp; omega)) fun p3 H12 hp3 e3 s12 => ?_
      repeat walk_at "s"
      refine i_dnewK fun p4 H13 hp4 e4 s13 => ?_
      repeat walk_at "s"
      refine i_newL fun p5 H14 hp5 e5 s14 => ?_
      repeat walk_at "s"
      have hls14 := ((s12.trans s13).trans s14) _ _ hls11
      refine i_addLN hls14 e5 (sz (by rw [vi_len]; simp; omega)) fun p6 H15 hp6 e6 s15 => ?_
      repeat walk_at "s"
      refine i_newL fun p7 H16 hp7 e7 s16 => ?_
      repeat walk_at "s"
      refine i_newL fun p8 H17 hp8 e8 s17 => ?_
      repeat walk_at "s"
      have j10 := j9.same s10
      have j11 := j10.same s11
      have j12 := j11.same s12
      have j13 := j12.same s13
      have j14 := j13.same s14
      have j15 := j14.same s15
      have j16 := j15.same s16
      have j17 := j16.same s17
      have s37 := (((s13.trans s14).trans s15).trans s16).trans s17
      have all : ∀ v ∈ [V.ref p1, .ref p3, .non, .int 7, .str "01", .ref p4, .bl true, .ref p6, .ref p7], ∃ d, OkV K (Hid b H17) v d ∧ isRow d m = false := by
        intro v hv
        simp only [List.mem_cons, List.not_mem_nil, or_false] at hv
        rcases hv with rfl | rfl | rfl | rfl | rfl | rfl | rfl | rfl | rfl
        · exact rowS (leaves_ints fun n h => hnat n (List.mem_of_mem_drop h)) (to_hid (((s11.trans s12).trans s37) _ _ e1) (j9.1.ne hp1)) (by rw [List.length_map, List.length_drop]; omega) (by rw [List.length_map, List.length_drop]; omega)
        · exact rowS ((leaves_ints hnat).app (.cons (leaf_int (i := 0) (by decide)) .nil)) (to_hid (s37 _ _ e3) (j11.1.ne hp3)) (by simp; omega) (by simp; omega)
        · exact ⟨_, okd_non.v, rfl⟩
        · exact ⟨_, (okd_int (by decide)).v, rfl⟩
        · exact ⟨_, (okd_str sm_str1.2.2.1).v, rfl⟩
        · exact ⟨_, ⟨.inr ⟨p4, rfl, to_hid ((((s14.trans s15).trans s16).trans s17) _ _ e4) (j12.1.ne hp4), rfl⟩, Sm.dict.mono (by decide) (by decide)⟩, rfl⟩
        · exact ⟨_, (okd_bl true).v, rfl⟩
        · exact rowS ((leaves_ints hnat).app (.cons leaf_non .nil)) (to_hid ((s16.trans s17) _ _ e6) (j14.1.ne hp6)) (by simp; omega) (by simp; omega)
        · exact rowS .nil (to_hid (s17 _ _ e7) (j15.1.ne hp7)) (by simp; omega) (by simp)
      refine ⟨b, L, p8, _, rfl, rfl, j17.1, e8, j16.1.ne hp8, by simp, by simp, fun i v H18 hv hb18 s18 => ?_⟩
      obtain ⟨ds, okv, row⟩ := mem_all all hv
      have j18 := j17.draw hb18 s18
      repeat walk_at "s"
      refine i_newT fun t2 H19 ht2 et2 s19 => ?_
      repeat walk_at "s"
      dsimp only [List.set]
      exact hR _ _ ⟨_, _, _, rfl, j18.same s19, .inr ⟨ds, okv.same ((hid_up s18).trans (hid_same s19)), .inl ⟨row, t2, rfl, to_hid et2 (j18.1.ne ht2), by decide⟩⟩⟩
    · repeat walk_at "s"
      refine ⟨b, L, _, rfl, rfl, hb9, by omega, by omega, fun k0 H10 k0a k0b hb10 s10 => ?_⟩
      obtain ⟨k, rfl⟩ : ∃ k : Nat, k0 = k := ⟨k0.toNat, by omega⟩
      have hkm : k < m := by omega
      have j10 := j9.draw hb10 s10
      have hls10 : H10 l = some (.lst (vi ns)) := hid_get j10.2.1 hlst lb
      repeat walk_at "s"
      refine i_slLN (sk_lst hls10) fun p1 H11 hp1 e1 s11 => ?_
      rw [vi_to (a := k) (by omega) rfl] at e1
      have j11 := j10.same s11
      repeat walk_at "s"
      refine i_newL fun p2 H12 hp2 e2 s12 => ?_
      have j12 := j11.same s12
      repeat walk_at "s"
      refine i_pow ⟨by decide, by decide, by decide⟩ ?_
      rw [pow10]
      repeat walk_at "s"
      refine i_newL fun p3 H13 hp3 e3 s13 => ?_
      have j13 := j12.same s13
      repeat walk_at "s"
      have all : ∀ v ∈ [V.int T2, .int (-1), .bl true, .non, .str "1", .ref p2, .int 100000000000000000000, .bl false], Pk K (Hid b H13) 0 (2 ^ W - 1) v := by
        intro v hv
        rw [hT]
        simp only [List.mem_cons, List.not_mem_nil, or_false] at hv
        rcases hv with rfl | rfl | rfl | rfl | rfl | rfl | rfl | rfl
        · exact pk_int (by omega) (by omega)
        · exact pk_int (by omega) (by decide)
        · exact pk_bl
        · exact pk_non
        · exact pk_str sm_str1.2.1
        · exact pk_list (to_hid (s13 _ _ e2) (j11.1.ne hp2)) (by decide)
        · exact pk_int (by omega) (by decide)
        · exact pk_bl
      refine ⟨b, L, p3, _, rfl, rfl, j13.1, e3, j12.1.ne hp3, by simp, by simp, fun i v H14 hv hb14 s14 => ?_⟩
      obtain ⟨dv, lf, bad⟩ := mem_all all hv
      have j14 := j13.draw hb14 s14
      have e1' : H14 p1 = some (.lst (vi (ns.take k))) := hid_get s14 ((s12.trans s13) _ _ e1) (j10.1.ne hp1)
      repeat walk_at "s"
      refine i_newL fun p4 H15 hp4 e4 s15 => ?_
      have j15 := j14.same s15
      repeat walk_at "s"
      refine i_addLN (s15 _ _ e1') e4 (sz (by rw [vi_len, List.length_take]; simp; omega)) fun p5 H16 hp5 e5 s16 => ?_
      have j16 := j15.same s16
      repeat walk_at "s"
      have hls16 : H16 l = some (.lst (vi ns)) := hid_get j16.2.1 hlst lb
      refine i_slLN (sk_lst hls16) fun p6 H17 hp6 e6 s17 => ?_
      rw [vi_from (a := k + 1) (by omega) (by omega)] at e6
      have j17 := j16.same s17
      repeat walk_at "s"
      refine i_addLN (s17 _ _ e5) e6 (sz (by rw [List.length_append, vi_len, vi_len, List.length_take, List.length_drop]; simp; omega)) fun p7 H18 hp7 e7 s18 => ?_
      have j18 := j17.same s18
      have np7 : p7 ≠ b := j17.1.ne hp7
      with_reducible refine i_n6 ?_
      with_reducible refine i_nx ?_
      have lf18 : Leaf K (Hid b H18) v dv := lf.same ((hid_up s14).trans (hid_same (((s15.trans s16).trans s17).trans s18)))
      have lv18 : Leaves K (Hid b H18) (vi (ns.take k) ++ [v] ++ vi (ns.drop (k + 1))) ((ns.take k).map .int ++ dv :: (ns.drop (k + 1)).map .int) := by
        rw [List.append_assoc]
        exact (leaves_ints fun n h => hnat n (List.mem_of_mem_take h)).app (.cons lf18 (leaves_ints fun n h => hnat n (List.mem_of_mem_drop h)))
      have fb18 : FB 0 (2 ^ W - 1) ((ns.take k).map .int ++ dv :: (ns.drop (k + 1)).map .int) k := by
        have := fb_mid (r := (ns.drop (k + 1)).map .int) (inI_map (lo := 0) (hi := 2 ^ W - 1) fun n h => hn n (List.mem_of_mem_take (i := k) h)) bad
        rwa [List.length_map, List.length_take, Nat.min_eq_left (by omega)] at this
      have nn7 : p7 ≠ D := by
        rintro rfl
        obtain ⟨_, _, ⟨_, z, _⟩, _⟩ := j17
        rw [z] at hp7
        cases hp7
      have nL7 : p7 ≠ L := j17.1.neL hp7
      have n07 : Hid b H p7 = none := by
        cases e : Hid b H p7 with
        | none => rfl
        | some o => rw [j17.2.1 _ _ e] at hp7; cases hp7
      with_reducible refine i_seqC (fun σ H' => ∃ xs ds, σ = [some (.ref b), some (.int W), some (.ref t), some (.ref D), some (.int C), some (.int G), some (.ref p7), some (.int T2), some (.int m), some .non, some (.int k), none] ∧ JJ H b L D H' ∧ H' p7 = some (.lst xs) ∧ Leaves K (Hid b H') xs ds ∧ ds.length = m ∧ FB 0 (2 ^ W - 1) ds k) ?_ ?_
      · rintro σ H19 ⟨xs, ds, rfl, j19, ex, lv, hlen, fb⟩
        repeat walk_at "s"
        refine i_newT fun t2 H20 ht2 et2 s20 => ?_
        repeat walk_at "s"
        exact hR _ _ ⟨_, _, _, rfl, j19.same s20, .inr ⟨_, ((lv.list (to_hid ex np7) (by omega)).v).same (hid_same s20), .inr ⟨ds, rfl, hlen, .inr ⟨k, fb, t2, rfl, to_hid et2 (j19.1.ne ht2), by omega⟩⟩⟩⟩
      · intro R2 hR2
        have len18 : ((ns.take k).map PyData.int ++ dv :: (ns.drop (k + 1)).map .int).length = m := by
          rw [List.length_append, List.length_cons, List.length_map, List.length_map, List.length_take, List.length_drop]
          omega
        repeat walk_at "s"
        refine i_if (fun hk1 => ?_) (fun _ => ?_)
        rotate_left
        · repeat walk_at "s"
          exact hR2 _ _ ⟨_, _, rfl, j18, e7, lv18, len18, fb18⟩
        repeat walk_at "s"
        refine ⟨b, L, _, rfl, rfl, j18.1, by omega, by omega, fun d2 H19 _ _ hb19 s19 => ?_⟩
        have j19 := j18.draw hb19 s19
        have e7' : H19 p7 = some (.lst (vi (ns.take k) ++ [v] ++ vi (ns.drop (k + 1)))) := hid_get s19 e7 np7
        repeat walk_at "s"
        refine i_if (fun _ => ?_) (fun _ => ?_)
        rotate_left
        · repeat walk_at "s"
          exact hR2 _ _ ⟨_, _, rfl, j19, e7', Leaves.same (hid_up s19) lv18, len18, fb18⟩
        repeat walk_at "s"
        have ex7 : (vi (ns.take k) ++ [v] ++ vi (ns.drop (k + 1))).set ((k : Int) + 1).toNat (.int T2) = vi (ns.take k) ++ v :: vi ((ns.drop (k + 1)).set 0 T2) := by
          have : ((k : Int) + 1).toNat = (vi (ns.take k)).length + 1 := by rw [vi_len, List.length_take]; omega
          rw [this, List.append_assoc, List.set_append_right _ _ (by omega)]
          simp [vi_set]
        refine i_setL e7' (ixN_ok (by omega) (by rw [List.length_append, List.length_append, vi_len, vi_len, List.length_take, List.length_drop]; simp; omega)) ?_
        rw [ex7]
        repeat walk_at "s"
        refine hR2 _ _ ⟨_, (ns.take k).map .int ++ dv :: ((ns.drop (k + 1)).set 0 T2).map .int, rfl, ?_, upd_same, ?_, ?_, ?_⟩
        · obtain ⟨q1, q2, ⟨ws, q3, q4⟩, q5⟩ := j19
          refine ⟨q1.upd np7 nL7, fun a u e => ?_, ⟨ws, by rw [upd_ne (Ne.symm nn7)]; exact q3, q4⟩, q5⟩
          rw [upd_ne (by rintro rfl; rw [n07] at e; cases e)]
          exact q2 _ _ e
        · have s1719 : Same (Hid b H17) H19 := fun a u e => s19 a u (hid_same s18 a u e)
          have n17 : Hid b H17 p7 = none := by
            cases e : Hid b H17 p7 with
            | none => rfl
            | some o => rw [of_hid e] at hp7; cases hp7
          have lf17 : Leaf K (Hid b H17) v dv := lf.same ((hid_up s14).trans (hid_same ((s15.trans s16).trans s17)))
          have lfE := lf17.same (H1 := Hid b (upd H19 p7 (.lst (vi (ns.take k) ++ v :: vi ((ns.drop (k + 1)).set 0 T2))))) fun a u e => to_hid (upd_at s1719 n17 a u e) (hid_ne e)
          exact (leaves_ints fun n h => hnat n (List.mem_of_mem_take h)).app (.cons lfE (leaves_ints fun n h => by
            rcases List.mem_or_eq_of_mem_set h with h | rfl
            · exact hnat n (List.mem_of_mem_drop h)
            · omega))
        · rw [List.length_append, List.length_cons, List.length_map, List.length_map, List.length_set, List.length_take, List.length_drop]
          omega
        · have := fb_mid (r := ((ns.drop (k + 1)).set 0 T2).map .int) (inI_map (lo := 0) (hi := 2 ^ W - 1) fun n h => hn n (List.mem_of_mem_take (i := k) h)) bad
          rwa [List.length_map, List.length_take, Nat.min_eq_left (by omega)] at this
end
end T

set_option Elab.async false
set_option linter.all false
set_option maxRecDepth 100000
set_option maxHeartbeats 8000000
/-! k62, part J: bent rows of bits. -/
namespace T
open PySem PySem.Spec PyProof.Rows L2 VI VC VG VD VE VF VH VL VM
set_option hygiene false in
local macro_rules | `(tactic| walk_at "s") => `(tactic| with_reducible first | refine i_seq ?_ | refine i_asg ?_ | refine i_ret ?_ | refine i_drop ?_ | refine i_next ?_ | refine i_nx ?_ | refine i_rt ?_ | refine i_ct ?_ | refine i_bk ?_ | refine i_op ?_ | refine i_un ?_ | refine i_cons ?_ | refine i_nil ?_ | refine i_cb ?_ | refine i_calls ?_ | refine i_c ?_ | refine i_ifs ?_ | refine i_ife ?_ | refine i_test ?_ | refine i_tb ?_ | refine i_bl ?_ | refine i_and ?_ | refine i_or ?_ | refine i_not ?_ | refine i_andv ?_ | refine i_orv ?_ | refine i_notv ?_ | refine i_chain ?_ | refine i_addI ?_ | refine i_sub ?_ | refine i_neg ?_ | refine i_eqI ?_ | refine i_eqS ?_ | refine i_neI ?_ | refine i_neS ?_ | refine i_lt ?_ | refine i_le ?_ | refine i_gt ?_ | refine i_ge ?_ | refine i_isN ?_ | refine i_notN ?_ | refine i_gnil ?_ | refine i_gcons ?_ | refine i_gsub ?_ | refine i_par ?_ | refine i_par3 ?_ | refine i_two ?_ | refine i_three ?_ | refine i_slice ?_ | refine i_nopart ?_ | refine i_part ?_ | refine i_ip ?_ | refine i_yes ?_ | refine i_iftrue ?_ | refine i_ifnt ?_ | refine i_ifnf ?_ | refine i_iffalse ?_ | refine i_S1 ?_ | refine i_S2 ?_ | refine i_S3 ?_ | refine i_S4 ?_ | refine i_S5 ?_ | refine i_intC ?_ | refine i_tupN ?_ | refine i_lstN ?_ | refine i_raise ?_ | refine i_for ?_ | refine i_lc ?_ | refine i_rg1 ?_ | refine i_rg2 ?_ | refine i_rg3 ?_ | refine i_sq ?_ | refine i_en ?_ | refine i_rv ?_ | refine i_callks ?_ | refine i_star ?_ | refine i_lc2 ?_ | walk_at "v")
set_option hygiene false in
local macro_rules | `(tactic| walk_at "v") => `(tactic| with_reducible first | refine i_v0 ?_ | refine i_v1 ?_ | refine i_v2 ?_ | refine i_v3 ?_ | refine i_v4 ?_ | refine i_v5 ?_ | refine i_v6 ?_ | refine i_v7 ?_ | refine i_v8 ?_ | refine i_v9 ?_ | refine i_v10 ?_ | refine i_v11 ?_ | refine i_v12 ?_ | refine i_v13 ?_ | refine i_v14 ?_ | refine i_v15 ?_ | refine i_v16 ?_ | refine i_v17 ?_ | refine i_v18 ?_ | refine i_v19 ?_ | refine i_v20 ?_ | refine i_v21 ?_ | refine i_v22 ?_ | refine i_v23 ?_ | refine i_v24 ?_ | refine i_v25 ?_ | refine i_v26 ?_ | refine i_v27 ?_ | refine i_v28 ?_ | refine i_v29 ?_ | refine i_n0 ?_ | refine i_n1 ?_ | refine i_n2 ?_ | refine i_n3 ?_ | refine i_n4 ?_ | refine i_n5 ?_ | refine i_n6 ?_ | refine i_n7 ?_ | refine i_n8 ?_ | refine i_n9 ?_ | refine i_n10 ?_ | refine i_n11 ?_ | refine i_n12 ?_ | refine i_n13 ?_ | refine i_n14 ?_ | refine i_n15 ?_ | refine i_n16 ?_ | refine i_n17 ?_ | refine i_n18 ?_ | refine i_n19 ?_ | refine i_n20 ?_ | refine i_n21 ?_ | refine i_n22 ?_ | refine i_n23 ?_ | refine i_n24 ?_ | refine i_n25 ?_ | refine i_n26 ?_ | refine i_n27 ?_ | refine i_n28 ?_ | refine i_n29 ?_)
theorem pow9 : (10 : Int) ^ (9 : Int).toNat = 1000000000 := by decide
theorem WM.many {W m : Nat} (h : WM W m) : 10 ≤ manyB W m ∧ manyB W m ≤ 22 := by rcases h with ⟨rfl, rfl⟩ | ⟨rfl, rfl⟩ <;> decide
/-- what is wrong with a row, and where -/
def BadRow (n : Nat) (d : PyData) (e : Int) : Prop := (isRow d (n : Nat) = false ∧ e = -1) ∨ ∃ l k, items d = some l ∧ l.length = n ∧ FB 0 1 l k ∧ e = (k : Nat)
section
variable {P : Program} {w : World} {K : PySem.W.Frag} {mg : Str → Option Value} {base : Heap} {C_InvalidNumber C_BadBits C_BadWords : Addr}
abbrev sp_bentb : PySem.W.Frag → Sp := fun K => S2 fun x0 x1 H Q E => ∃ (b L : Addr) (n : Nat) (ns : List Int) (l : Addr), x0 = .ref b ∧ x1 = .ref l ∧ Bag H b L ∧ H l = some (.lst (vi ns)) ∧ l ≠ b ∧ ns.length = n ∧ 10 ≤ n ∧ n ≤ 22 ∧ (∀ n ∈ ns, 0 ≤ n ∧ n ≤ 1) ∧
  ∀ r H' v e d, H r = none → Bag H' b L → Same (Hid b H) H' → H' r = some (.tup [v, .int e]) → OkV K (Hid b H') v d → e.natAbs < 100 → BadRow n d e → Q (.ref r) H'
theorem cl_law_bent_bits (nb : Nb mg) (D_law_bent_bits : DefAt K mg "_law_bent_bits" st_law_bent_bits) (C_law_draw : Cl P w K mg base 3 "_law_draw" ["_law_bag", "_law_many"] sp_draw [[]]) (C_law_pick : Cl P w K mg base 6 "_law_pick" ["_law_bag", "_law_some"] sp_pick [[]])  : Cl P w K mg base 9 "_law_bent_bits" ["_law_bag", "_law_bits"] (sp_bentb K) [[]] := by
  obtain ⟨f, fd, hm, F⟩ := D_law_bent_bits
  refine cl_of (k := 8) hm F (fun kV doc pm an cdv ct ks hks us ws hl hlw => ?bind) sc_law_bent_bits ?len (fun cdv A outer s H vs Q E hr h => ⟨_, (by exact (pss_cons (ps_if (pt_cmpR (k_eq (K := K) rfl hr.units) (pe_cl C_law_draw hr (by decide) (fun σ => passAt (takes_of rfl rfl rfl rfl) σ) (pa_cons (pv 0) (pa_cons pe_int pa_nil))) pe_int (nomark _))
      (pss_one (ps_ret (pe_tup (pa_cons (pe_cl C_law_pick hr (by decide) (fun σ => passAt (takes_of rfl rfl rfl rfl) σ) (pa_cons (pv 0) (pa_cons (pe_lst (pa_cons (k_sl (K := K) rfl (pv 1) (po_some pe_int) po_none) (pa_cons (pe_op (k_add (K := K) rfl) (pv 1) (pe_lst (pa_cons pe_int pa_nil))) (pa_cons pe_non (pa_cons pe_int (pa_cons pe_str (pa_cons pe_dnewK (pa_cons (pe_lst pa_nil) (pa_cons (pe_op (k_add (K := K) rfl) (pv 1) (pe_lst (pa_cons pe_int pa_nil))) (pa_cons pe_bl pa_nil)))))))))) pa_nil))) (pa_cons (pe_un un_negA pe_int) pa_nil)))))
      pss_nil)
      (pss_cons (ps_set (i := 2) sc_law_bent_bits.nd rfl (Or.inl rfl) (pe_cl C_law_draw hr (by decide) (fun σ => passAt (takes_of rfl rfl rfl rfl) σ) (pa_cons (pv 0) (pa_cons (pe_callB (k_len (K := K) rfl) (by rfl) nb.n_len (by decide +kernel) (pa_cons (pv 1) pa_nil)) pa_nil))))
      (pss_cons (ps_set (i := 3) sc_law_bent_bits.nd rfl (Or.inl rfl) (pe_op (k_add (K := K) rfl) (pe_op (k_add (K := K) rfl) (k_sl (K := K) rfl (pv 1) po_none (po_some (pv 2))) (pe_lst (pa_cons (pe_cl C_law_pick hr (by decide) (fun σ => passAt (takes_of rfl rfl rfl rfl) σ) (pa_cons (pv 0) (pa_cons (pe_lst (pa_cons pe_int (pa_cons (pe_un un_negA pe_int) (pa_cons pe_bl (pa_cons pe_bl (pa_cons pe_non (pa_cons pe_str (pa_cons (pe_lst (pa_cons pe_int pa_nil)) (pa_cons (pe_op op_powA pe_int pe_int) pa_nil))))))))) pa_nil))) pa_nil))) (k_sl (K := K) rfl (pv 1) (po_some (pe_op (k_add (K := K) rfl) (pv 2) pe_int)) po_none)))
      (pss_cons (ps_if (PW.pt (pw_and (pt_cmpR op_ltA (pe_op (k_add (K := K) rfl) (pv 2) pe_int) (pe_callB (k_len (K := K) rfl) (by rfl) nb.n_len (by decide +kernel) (pa_cons (pv 1) pa_nil)) (nomark _)) (pw_and1 (pt_cmpR (k_eq (K := K) rfl hr.units) (pe_cl C_law_draw hr (by decide) (fun σ => passAt (takes_of rfl rfl rfl rfl) σ) (pa_cons (pv 0) (pa_cons pe_int pa_nil))) pe_int (nomark _)))))
      (pss_one (ps_asg pe_bl (pg_sub (pv 3) (pe_op (k_add (K := K) rfl) (pv 2) pe_int) set_list)))
      pss_nil)
      (pss_one (ps_ret (pe_tup (pa_cons (pe_ifExp (pt_cmpR (k_eq (K := K) rfl hr.units) (pe_cl C_law_draw hr (by decide) (fun σ => passAt (takes_of rfl rfl rfl rfl) σ) (pa_cons (pv 0) (pa_cons pe_int pa_nil))) pe_int (nomark _)) (pe_callTy (k_tuple (K := K) rfl) (by rfl) nb.n_tuple (by decide +kernel) (pa_cons (pv 3) pa_nil)) (pv 3)) (pa_cons (pv 2) pa_nil)))))))))), ?_⟩)
  case bind =>
    obtain rfl : ks = ([] : List Str) := by simpa using hks
    · have hl2 : us.length = 2 := by simp only [List.length_append, List.length_cons, List.length_nil] at hl hlw; omega
      match us, hl2, ws, hlw with
      | [_, _], _, [], _ => rfl
  case len =>
    intro vs H Q E h
    obtain ⟨_, _, rfl, _⟩ := h
    rfl
  obtain ⟨x0, x1, rfl, h⟩ := h
  refine i_start [some x0, some x1, none, none] rfl ?_
  obtain ⟨b, L, m, ns, l, rfl, rfl, hb, hlst, lb, hl, m10, m22, hn, g⟩ := h
  have hnat : ∀ n ∈ ns, n.natAbs < 10 ^ 40 := fun n h => by have := hn n h; omega
  repeat walk_at "s"
  refine ⟨b, L, _, rfl, rfl, hb, by omega, by omega, fun d1 H9 _ _ hb9 s9 => ?_⟩
  have hls : H9 l = some (.lst (vi ns)) := hid_get s9 hlst lb
  repeat walk_at "s"
  refine i_if (fun _ => ?_) (fun _ => ?_)
  · repeat walk_at "s"
    refine i_slLN (sk_lst hls) fun p1 H10 hp1 e1 s10 => ?_
    rw [vi_from (a := 1) (x := 1) (by omega) rfl] at e1
    repeat walk_at "s"
    refine i_newL fun p2 H11 hp2 e2 s11 => ?_
    repeat walk_at "s"
    have hls11 := (s10.trans s11) _ _ hls
    refine i_addLN hls11 e2 (sz (by rw [vi_len]; simp; omega)) fun p3 H12 hp3 e3 s12 => ?_
    repeat walk_at "s"
    refine i_dnewK fun p4 H13 hp4 e4 s13 => ?_
    repeat walk_at "s"
    refine i_newL fun p5 H14 hp5 e5 s14 => ?_
    repeat walk_at "s"
    refine i_newL fun p6 H15 hp6 e6 s15 => ?_
    repeat walk_at "s"
    have hls15 := (((s12.trans s13).trans s14).trans s15) _ _ hls11
    refine i_addLN hls15 e6 (sz (by rw [vi_len]; simp; omega)) fun p7 H16 hp7 e7 s16 => ?_
    repeat walk_at "s"
    refine i_newL fun p8 H17 hp8 e8 s17 => ?_
    repeat walk_at "s"
    have b10 := hb9.same s10
    have b11 := b10.same s11
    have b12 := b11.same s12
    have b13 := b12.same s13
    have b14 := b13.same s14
    have b15 := b14.same s15
    have b16 := b15.same s16
    have b17 := b16.same s17
    have s37 := (((s13.trans s14).trans s15).trans s16).trans s17
    have rowS : ∀ {ds : List PyData} {xs : List V} {H' : Hp} {p : Addr}, Leaves K (Hid b H') xs ds → (Hid b H') p = some (.lst xs) → ds.length ≠ m → ds.length ≤ 30 → ∃ d, OkV K (Hid b H') (.ref p) d ∧ isRow d m = false := fun h e n z =>
      ⟨_, (h.list e z).v, by simp [isRow, items]; omega⟩
    have all : ∀ v ∈ [V.ref p1, .ref p3, .non, .int 3, .str "01", .ref p4, .ref p5, .ref p7, .bl true], ∃ d, OkV K (Hid b H17) v d ∧ isRow d m = false := by
      intro v hv
      simp only [List.mem_cons, List.not_mem_nil, or_false] at hv
      rcases hv with rfl | rfl | rfl | rfl | rfl | rfl | rfl | rfl | rfl
      · exact rowS (leaves_ints fun n h => hnat n (List.mem_of_mem_drop h)) (to_hid (((s11.trans s12).trans s37) _ _ e1) (hb9.ne hp1)) (by rw [List.length_map, List.length_drop]; omega) (by rw [List.length_map, List.length_drop]; omega)
      · exact rowS ((leaves_ints hnat).app (.cons (leaf_int (i := 0) (by decide)) .nil)) (to_hid (s37 _ _ e3) (b11.ne hp3)) (by simp; omega) (by simp; omega)
      · exact ⟨_, okd_non.v, rfl⟩
      · exact ⟨_, (okd_int (by decide)).v, rfl⟩
      · exact ⟨_, (okd_str sm_str1.2.2.1).v, rfl⟩
      · exact ⟨_, ⟨.inr ⟨p4, rfl, to_hid ((((s14.trans s15).trans s16).trans s17) _ _ e4) (b12.ne hp4), rfl⟩, Sm.dict.mono (by decide) (by decide)⟩, rfl⟩
      · exact rowS .nil (to_hid (((s15.trans s16).trans s17) _ _ e5) (b13.ne hp5)) (by simp; omega) (by simp)
      · exact rowS ((leaves_ints hnat).app (.cons (leaf_int (i := 2) (by decide)) .nil)) (to_hid (s17 _ _ e7) (b15.ne hp7)) (by simp; omega) (by simp; omega)
      · exact ⟨_, (okd_bl true).v, rfl⟩
    refine ⟨b, L, p8, _, rfl, rfl, b17, e8, b16.ne hp8, by simp, by simp, fun i v H18 hv hb18 s18 => ?_⟩
    obtain ⟨ds, okv, row⟩ := mem_all all hv
    repeat walk_at "s"
    refine i_newT fun t2 H19 ht2 et2 s19 => ?_
    repeat walk_at "s"
    have sT := hid_trans (hid_then s9 (((s10.trans s11).trans s12).trans s37)) s18
    exact g t2 H19 v (-1) ds (hid_none sT ht2 (hb18.ne ht2)) (hb18.same s19) (hid_then sT s19) et2 (okv.same ((hid_up s18).trans (hid_same s19))) (by decide) (.inl ⟨row, rfl⟩)
  · repeat walk_at "s"
    refine i_lenC (len_sk (sk_lst hls)) ?_
    repeat walk_at "s"
    rw [vi_len]
    refine ⟨b, L, _, rfl, rfl, hb9, by omega, by omega, fun k0 H10 k0a k0b hb10 s10 => ?_⟩
    obtain ⟨k, rfl⟩ : ∃ k : Nat, k0 = k := ⟨k0.toNat, by omega⟩
    have hkm : k < m := by omega
    have s010 := hid_trans s9 s10
    have hls10 : H10 l = some (.lst (vi ns)) := hid_get s010 hlst lb
    repeat walk_at "s"
    refine i_slLN (sk_lst hls10) fun p1 H11 hp1 e1 s11 => ?_
    rw [vi_to (a := k) (by omega) rfl] at e1
    have b11 := hb10.same s11
    repeat walk_at "s"
    refine i_newL fun p2 H12 hp2 e2 s12 => ?_
    have b12 := b11.same s12
    repeat walk_at "s"
    refine i_pow ⟨by decide, by decide, by decide⟩ ?_
    rw [pow9]
    repeat walk_at "s"
    refine i_newL fun p3 H13 hp3 e3 s13 => ?_
    have b13 := b12.same s13
    repeat walk_at "s"
    have all : ∀ v ∈ [V.int 2, .int (-1), .bl true, .bl false, .non, .str "1", .ref p2, .int 1000000000], Pk K (Hid b H13) 0 1 v := by
      intro v hv
      simp only [List.mem_cons, List.not_mem_nil, or_false] at hv
      rcases hv with rfl | rfl | rfl | rfl | rfl | rfl | rfl | rfl
      · exact pk_int (by omega) (by omega)
      · exact pk_int (by omega) (by decide)
      · exact pk_bl
      · exact pk_bl
      · exact pk_non
      · exact pk_str sm_str1.2.1
      · exact pk_list (to_hid (s13 _ _ e2) (b11.ne hp2)) (by decide)
      · exact pk_int (by omega) (by decide)
    refine ⟨b, L, p3, _, rfl, rfl, b13, e3, b12.ne hp3, by simp, by simp, fun i v H14 hv hb14 s14 => ?_⟩
    obtain ⟨dv, lf, bad⟩ := mem_all all hv
    have s014 := hid_trans (hid_then s010 ((s11.trans s12).trans s13)) s14
    have e1' : H14 p1 = some (.lst (vi (ns.take k))) := hid_get s14 ((s12.trans s13) _ _ e1) (hb10.ne hp1)
    repeat walk_at "s"
    refine i_newL fun p4 H15 hp4 e4 s15 => ?_
    repeat walk_at "s"
    refine i_addLN (s15 _ _ e1') e4 (sz (by rw [vi_len, List.length_take]; simp; omega)) fun p5 H16 hp5 e5 s16 => ?_
    repeat walk_at "s"
    have hls16 : H16 l = some (.lst (vi ns)) := hid_get (hid_then s014 (s15.trans s16)) hlst lb
    refine i_slLN (sk_lst hls16) fun p6 H17 hp6 e6 s17 => ?_
    rw [vi_from (a := k + 1) (by omega) (by omega)] at e6
    have s017 := hid_then s014 ((s15.trans s16).trans s17)
    have b17 := ((hb14.same s15).same s16).same s17
    repeat walk_at "s"
    refine i_addLN (s17 _ _ e5) e6 (sz (by rw [List.length_append, vi_len, vi_len, List.length_take, List.length_drop]; simp; omega)) fun p7 H18 hp7 e7 s18 => ?_
    have b18 := b17.same s18
    have s018 := hid_then s017 s18
    have np7 : p7 ≠ b := b17.ne hp7
    with_reducible refine i_n3 ?_
    with_reducible refine i_nx ?_
    have lf18 : Leaf K (Hid b H18) v dv := lf.same ((hid_up s14).trans (hid_same (((s15.trans s16).trans s17).trans s18)))
    have lv18 : Leaves K (Hid b H18) (vi (ns.take k) ++ [v] ++ vi (ns.drop (k + 1))) ((ns.take k).map .int ++ dv :: (ns.drop (k + 1)).map .int) := by
      rw [List.append_assoc]
      exact (leaves_ints fun n h => hnat n (List.mem_of_mem_take h)).app (.cons lf18 (leaves_ints fun n h => hnat n (List.mem_of_mem_drop h)))
    have fbA : ∀ r, FB 0 1 ((ns.take k).map .int ++ dv :: r) k := fun r => by
      have := fb_mid (r := r) (inI_map (lo := 0) (hi := 1) fun n h => hn n (List.mem_of_mem_take (i := k) h)) bad
      rwa [List.length_map, List.length_take, Nat.min_eq_left (by omega)] at this
    have nL7 : p7 ≠ L := b17.neL hp7
    have n07 : Hid b H p7 = none := by
      cases e : Hid b H p7 with
      | none => rfl
      | some o => rw [s017 _ _ e] at hp7; cases hp7
    with_reducible refine i_seqC (fun σ H' => ∃ xs ds, σ = [some (.ref b), some (.ref l), some (.int k), some (.ref p7)] ∧ Bag H' b L ∧ Same (Hid b H) H' ∧ H' p7 = some (.lst xs) ∧ Leaves K (Hid b H') xs ds ∧ ds.length = m ∧ FB 0 1 ds k) ?_ ?_
    · rintro σ H19 ⟨xs, ds, rfl, b19, s019, ex, lv, hlen, fb⟩
      repeat walk_at "s"
      refine ⟨b, L, _, rfl, rfl, b19, by omega, by omega, fun d2 H20 _ _ hb20 s20 => ?_⟩
      have s020 := hid_trans s019 s20
      have ex20 := hid_get s20 ex np7
      have lv20 := Leaves.same (hid_up s20) lv
      repeat walk_at "s"
      refine i_if (fun _ => ?_) (fun _ => ?_)
      · repeat walk_at "s"
        refine i_tupleC (.inl (.inl ex20)) fun p8 H21 hp8 e8 s21 => ?_
        repeat walk_at "s"
        refine i_newT fun t2 H22 ht2 et2 s22 => ?_
        repeat walk_at "s"
        have b21 := hb20.same s21
        have s021 := hid_then s020 s21
        exact g t2 H22 _ k (seqD false ds) (hid_none s021 ht2 (b21.ne ht2)) (b21.same s22) (hid_then s021 s22) et2
          (((Leaves.same (hid_same s21) lv20).tup (b := false) (.inl (.inl (to_hid e8 (hb20.ne hp8)))) (by omega)).v.same (hid_same s22)) (by omega) (.inr ⟨ds, k, seqD_items _ _, hlen, fb, rfl⟩)
      · repeat walk_at "s"
        refine i_newT fun t2 H22 ht2 et2 s22 => ?_
        repeat walk_at "s"
        exact g t2 H22 _ k (.list ds) (hid_none s020 ht2 (hb20.ne ht2)) (hb20.same s22) (hid_then s020 s22) et2
          ((lv20.list (to_hid ex20 np7) (by omega)).v.same (hid_same s22)) (by omega) (.inr ⟨ds, k, rfl, hlen, fb, rfl⟩)
    · intro R2 hR2
      have len18 : ((ns.take k).map PyData.int ++ dv :: (ns.drop (k + 1)).map .int).length = m := by
        rw [List.length_append, List.length_cons, List.length_map, List.length_map, List.length_take, List.length_drop]
        omega
      repeat walk_at "s"
      have hls18 : H18 l = some (.lst (vi ns)) := hid_get s018 hlst lb
      refine i_lenC (len_sk (sk_lst hls18)) ?_
      repeat walk_at "s"
      rw [vi_len]
      refine i_if (fun hk1 => ?_) (fun _ => ?_)
      rotate_left
      · repeat walk_at "s"
        exact hR2 _ _ ⟨_, _, rfl, b18, s018, e7, lv18, len18, fbA _⟩
      repeat walk_at "s"
      refine ⟨b, L, _, rfl, rfl, b18, by omega, by omega, fun d2 H19 _ _ hb19 s19 => ?_⟩
      have s019 := hid_trans s018 s19
      have e7' : H19 p7 = some (.lst (vi (ns.take k) ++ [v] ++ vi (ns.drop (k + 1)))) := hid_get s19 e7 np7
      repeat walk_at "s"
      refine i_if (fun _ => ?_) (fun _ => ?_)
      rotate_left
      · repeat walk_at "s"
        exact hR2 _ _ ⟨_, _, rfl, hb19, s019, e7', Leaves.same (hid_up s19) lv18, len18, fbA _⟩
      repeat walk_at "s"
      obtain ⟨n1, r1, er1⟩ : ∃ n1 r1, ns.drop (k + 1) = n1 :: r1 := by
        cases e : ns.drop (k + 1) with
        | nil =>
          have := congrArg List.length e
          rw [List.length_drop] at this
          simp at this
          omega
        | cons a r => exact ⟨a, r, rfl⟩
      have lr1 : r1.length + 1 = m - (k + 1) := by
        have := congrArg List.length er1
        rw [List.length_drop] at this
        simp at this
        omega
      have hr1 : ∀ n ∈ r1, n.natAbs < 10 ^ 40 := fun n h => hnat n (List.mem_of_mem_drop (i := k + 1) (by rw [er1]; exact List.mem_cons_of_mem _ h))
      have ex7 : (vi (ns.take k) ++ [v] ++ vi (ns.drop (k + 1))).set ((k : Int) + 1).toNat (.bl true) = vi (ns.take k) ++ v :: .bl true :: vi r1 := by
        have : ((k : Int) + 1).toNat = (vi (ns.take k)).length + 1 := by rw [vi_len, List.length_take]; omega
        rw [this, List.append_assoc, List.set_append_right _ _ (by omega), er1]
        simp [vi]
      refine i_setL e7' (ixN_ok (by omega) (by rw [List.length_append, List.length_append, vi_len, vi_len, List.length_take, List.length_drop]; simp; omega)) ?_
      rw [ex7]
      repeat walk_at "s"
      refine hR2 _ _ ⟨_, (ns.take k).map .int ++ dv :: .bool true :: r1.map .int, rfl, hb19.upd np7 nL7, ?_, upd_same, ?_, ?_, fbA _⟩
      · exact fun a u e => by
          rw [upd_ne (by rintro rfl; rw [n07] at e; cases e)]
          exact s019 _ _ e
      · have s1719 : Same (Hid b H17) H19 := fun a u e => s19 a u (hid_same s18 a u e)
        have n17 : Hid b H17 p7 = none := by
          cases e : Hid b H17 p7 with
          | none => rfl
          | some o => rw [of_hid e] at hp7; cases hp7
        have lf17 : Leaf K (Hid b H17) v dv := lf.same ((hid_up s14).trans (hid_same ((s15.trans s16).trans s17)))
        have lfE := lf17.same (H1 := Hid b (upd H19 p7 (.lst (vi (ns.take k) ++ v :: .bl true :: vi r1)))) fun a u e => to_hid (upd_at s1719 n17 a u e) (hid_ne e)
        exact (leaves_ints fun n h => hnat n (List.mem_of_mem_take h)).app (.cons lfE (.cons (leaf_bl true) (leaves_ints hr1)))
      · rw [List.length_append, List.length_cons, List.length_cons, List.length_map, List.length_map, List.length_take]
        omega
end
end T

set_option Elab.async false
set_option linter.all false
set_option maxRecDepth 100000
set_option maxHeartbeats 4000000
/-! k62, part L: the plain law. -/
namespace T
open PySem PySem.Spec PyProof.Rows L2 VI VC VG VD VE VF VH VL VM
theorem stepF_ok {W m : Nat} {C G : Int} {ns : List Int} (wm : WM W m) (c0 : 0 ≤ C) (c1 : C < m) (g0 : 0 ≤ G) (g1 : G ≤ 2 ^ W - 1) (hl : ns.length = m) (hn : ∀ n ∈ ns, 0 ≤ n ∧ n ≤ 2 ^ W - 1) :
    0 ≤ (stepF m (2 ^ W) C G ns).1 ∧ (stepF m (2 ^ W) C G ns).1 < m ∧ 0 ≤ (stepF m (2 ^ W) C G ns).2.1 ∧ (stepF m (2 ^ W) C G ns).2.1 ≤ 2 ^ W - 1 ∧ (stepF m (2 ^ W) C G ns).2.2.length = m ∧ ∀ n ∈ (stepF m (2 ^ W) C G ns).2.2, 0 ≤ n ∧ n ≤ 2 ^ W - 1 := by
  have wle := wm.le
  have m0 : (0 : Int) < m := by omega
  have top : (8 : Int) ≤ 2 ^ W := by rcases wm with ⟨rfl, rfl⟩ | ⟨rfl, rfl⟩ <;> decide
  unfold stepF
  generalize ns.getD C.toNat 0 = x
  have a0 := Int.emod_nonneg x (Int.ne_of_gt m0)
  have a1 := Int.emod_lt_of_pos x m0
  have d0 := Int.emod_nonneg (C + 1) (Int.ne_of_gt m0)
  have d1 := Int.emod_lt_of_pos (C + 1) m0
  have hx := getD_mem (P := fun n => 0 ≤ n ∧ n ≤ 2 ^ W - 1) (i := (x % m).toNat) (by omega) hn
  have t0 : (0 : Int) < 2 ^ W := by omega
  have e0 := Int.emod_nonneg (G + ns.getD (x % m).toNat 0) (Int.ne_of_gt t0)
  have e1 := Int.emod_lt_of_pos (G + ns.getD (x % m).toNat 0) t0
  dsimp only
  split
  · exact ⟨a0, a1, g0, g1, hl, hn⟩
  · refine ⟨d0, d1, ?_, ?_, ?_, ?_⟩ <;> dsimp only
    · split
      · exact hx.1
      · split
        · exact e0
        · exact g0
    · split
      · exact hx.2
      · split
        · omega
        · exact g1
    · split
      · rw [List.length_set]; exact hl
      · exact hl
    · intro n h
      split at h
      · rcases List.mem_or_eq_of_mem_set h with h | rfl
        · exact hn n h
        · exact ⟨g0, g1⟩
      · exact hn n h
theorem bitsL_succ (n : Int) (W : Nat) : bitsL n (W + 1) = n % 2 :: bitsL (n / 2) W := by
  unfold bitsL
  rw [List.range_succ_eq_map, List.map_cons, List.map_map]
  congr 1
  · simp
  · apply List.map_congr_left
    intro k _
    simp only [Function.comp, Nat.succ_eq_add_one]
    rw [Int.pow_succ, Int.mul_comm, ← Int.ediv_ediv_of_nonneg (by omega : (0 : Int) ≤ 2)]
theorem numL_bitsL : ∀ {W : Nat} {n : Int}, 0 ≤ n → n < 2 ^ W → numL (bitsL n W) = n
  | 0, n, h0, h1 => by
    have : n = 0 := by simp at h1; omega
    subst this
    rfl
  | W + 1, n, h0, h1 => by
    rw [bitsL_succ, numL, numL_bitsL (by omega) (by rw [Int.pow_succ] at h1; omega)]
    omega
theorem bitsL_numL : ∀ {bs : List Int}, (∀ b ∈ bs, 0 ≤ b ∧ b ≤ 1) → bitsL (numL bs) bs.length = bs
  | [], _ => rfl
  | b :: bs, h => by
    have hb := h b (List.mem_cons_self ..)
    rw [List.length_cons, bitsL_succ, numL, show (2 * numL bs + b) % 2 = b by omega, show (2 * numL bs + b) / 2 = numL bs by omega, bitsL_numL fun x hx => h x (List.mem_cons_of_mem _ hx)]
theorem numL_bd : ∀ {bs : List Int}, (∀ b ∈ bs, 0 ≤ b ∧ b ≤ 1) → 0 ≤ numL bs ∧ numL bs ≤ 2 ^ bs.length - 1
  | [], _ => by simp [numL]
  | b :: bs, h => by
    have hb := h b (List.mem_cons_self ..)
    have := numL_bd fun x hx => h x (List.mem_cons_of_mem _ hx)
    rw [List.length_cons, numL, Int.pow_succ]
    omega
theorem bitsL_bd {n : Int} {W : Nat} : ∀ b ∈ bitsL n W, 0 ≤ b ∧ b ≤ 1 := by
  intro b hb
  unfold bitsL at hb
  obtain ⟨k, _, rfl⟩ := List.mem_map.mp hb
  omega
theorem wordsL_cons {a r : List Int} {W k : Nat} (h : a.length = W) : wordsL (a ++ r) W (k + 1) = numL a :: wordsL r W k := by
  unfold wordsL
  rw [List.range_succ_eq_map, List.map_cons, List.map_map]
  congr 1
  · rw [Nat.zero_mul, List.drop_zero, ← h, List.take_left']
    rfl
  · apply List.map_congr_left
    intro j _
    simp only [Function.comp]
    rw [show Nat.succ j * W = a.length + j * W by rw [Nat.succ_mul, h]; omega, List.drop_append, List.drop_of_length_le (by omega), Nat.add_sub_cancel_left, List.nil_append]
theorem wordsL_bitsAll {W : Nat} : ∀ {ns : List Int}, (∀ n ∈ ns, 0 ≤ n ∧ n ≤ 2 ^ W - 1) → wordsL (bitsAll ns W) W ns.length = ns
  | [], _ => rfl
  | n :: ns, h => by
    have hn := h n (List.mem_cons_self ..)
    rw [bitsAll_cons, List.length_cons, wordsL_cons (bitsL_len n W), numL_bitsL hn.1 (by omega), wordsL_bitsAll fun x hx => h x (List.mem_cons_of_mem _ hx)]
theorem bitsAll_wordsL {W : Nat} : ∀ {k : Nat} {bs : List Int}, bs.length = k * W → (∀ b ∈ bs, 0 ≤ b ∧ b ≤ 1) → bitsAll (wordsL bs W k) W = bs
  | 0, bs, h, _ => by
    have : bs = [] := by simpa using h
    rw [this]
    rfl
  | k + 1, bs, h, hb => by
    have hle : W ≤ bs.length := by rw [h, Nat.succ_mul]; omega
    have ht : (bs.take W).length = W := by rw [List.length_take]; omega
    have e := wordsL_cons (a := bs.take W) (r := bs.drop W) (W := W) (k := k) ht
    rw [List.take_append_drop] at e
    have hb1 := bitsL_numL (bs := bs.take W) fun b h => hb b (List.mem_of_mem_take h)
    rw [ht] at hb1
    rw [e, bitsAll_cons, hb1, bitsAll_wordsL (by rw [List.length_drop, h, Nat.succ_mul]; omega) fun b h => hb b (List.mem_of_mem_drop h), List.take_append_drop]
theorem wordsL_bd {W k : Nat} {bs : List Int} (h : bs.length = k * W) (hb : ∀ b ∈ bs, 0 ≤ b ∧ b ≤ 1) : ∀ n ∈ wordsL bs W k, 0 ≤ n ∧ n ≤ 2 ^ W - 1 := by
  intro n hn
  unfold wordsL at hn
  obtain ⟨j, hj, rfl⟩ := List.mem_map.mp hn
  have hj := List.mem_range.mp hj
  have hlen : ((bs.drop (j * W)).take W).length = W := by
    have : j * W + W ≤ k * W := by rw [← Nat.succ_mul]; exact Nat.mul_le_mul_right _ hj
    rw [List.length_take, List.length_drop, h]
    omega
  have := numL_bd (bs := (bs.drop (j * W)).take W) fun b h => hb b (List.mem_of_mem_drop (List.mem_of_mem_take h))
  rwa [hlen] at this
theorem WM.two {W m : Nat} (h : WM W m) : (2 : Int) ^ (W - 2) = (m : Nat) := by rcases h with ⟨rfl, rfl⟩ | ⟨rfl, rfl⟩ <;> decide
theorem WM.split {W m : Nat} (h : WM W m) : manyB W m = (W - 2) + (m + 1) * W := by rcases h with ⟨rfl, rfl⟩ | ⟨rfl, rfl⟩ <;> rfl
theorem stateBits_len {W m : Nat} {C G : Int} {ns : List Int} (wm : WM W m) (hl : ns.length = m) : (stateBits W C G ns).length = manyB W m := by
  unfold stateBits
  rw [List.length_append, bitsAll_len, bitsAll_len, wm.split]
  simp [hl]
theorem bitsAll_bd {ns : List Int} {W : Nat} : ∀ b ∈ bitsAll ns W, 0 ≤ b ∧ b ≤ 1 := by
  intro b hb
  unfold bitsAll at hb
  obtain ⟨n, _, h⟩ := List.mem_flatMap.mp hb
  exact bitsL_bd b h
theorem stateBits_bd {W : Nat} {C G : Int} {ns : List Int} : ∀ b ∈ stateBits W C G ns, 0 ≤ b ∧ b ≤ 1 := by
  intro b hb
  rcases List.mem_append.mp hb with h | h
  · exact bitsAll_bd b h
  · exact bitsAll_bd b h
/-- a state, made bits and back -/
theorem state_there {W m : Nat} {C G : Int} {ns : List Int} (wm : WM W m) (c0 : 0 ≤ C) (c1 : C < m) (g0 : 0 ≤ G) (g1 : G ≤ 2 ^ W - 1) (hl : ns.length = m) (hn : ∀ n ∈ ns, 0 ≤ n ∧ n ≤ 2 ^ W - 1) : stateF W m (stateBits W C G ns) = (C, G, ns) := by
  have hlen : (bitsAll [C] (W - 2)).length = W - 2 := by rw [bitsAll_len]; simp
  have e1 : (stateBits W C G ns).take (W - 2) = bitsAll [C] (W - 2) := by
    unfold stateBits
    rw [List.take_append_of_le_length (by omega), List.take_of_length_le (by omega)]
  have e2 : (stateBits W C G ns).drop (W - 2) = bitsAll (G :: ns) W := by
    unfold stateBits
    rw [List.drop_append_of_le_length (by omega), List.drop_of_length_le (by omega)]
    rfl
  have t2 := wm.two
  have w1 := wordsL_bitsAll (W := W - 2) (ns := [C]) (by intro n h; obtain rfl : n = C := by simpa using h
                                                         rw [t2]; omega)
  have w2 := wordsL_bitsAll (W := W) (ns := G :: ns) (by
    intro n h
    rcases List.mem_cons.mp h with rfl | h
    · exact ⟨g0, g1⟩
    · exact hn n h)
  rw [List.length_cons, hl] at w2
  unfold stateF
  rw [e1, e2, w2, show wordsL (bitsAll [C] (W - 2)) (W - 2) 1 = [C] from w1]
  rfl
/-- bits, made a state and back -/
theorem state_back {W m : Nat} {bs : List Int} (wm : WM W m) (hl : bs.length = manyB W m) (hb : ∀ b ∈ bs, 0 ≤ b ∧ b ≤ 1) :
    stateBits W (stateF W m bs).1 (stateF W m bs).2.1 (stateF W m bs).2.2 = bs ∧ 0 ≤ (stateF W m bs).1 ∧ (stateF W m bs).1 < m ∧ 0 ≤ (stateF W m bs).2.1 ∧ (stateF W m bs).2.1 ≤ 2 ^ W - 1 ∧ (stateF W m bs).2.2.length = m ∧ ∀ n ∈ (stateF W m bs).2.2, 0 ≤ n ∧ n ≤ 2 ^ W - 1 := by
  have hs := wm.split
  have wle := wm.le
  have ht : (bs.take (W - 2)).length = 1 * (W - 2) := by rw [List.length_take, hl]; omega
  have hd : (bs.drop (W - 2)).length = (m + 1) * W := by rw [List.length_drop, hl]; omega
  have hbt : ∀ b ∈ bs.take (W - 2), 0 ≤ b ∧ b ≤ 1 := fun b h => hb b (List.mem_of_mem_take h)
  have hbd : ∀ b ∈ bs.drop (W - 2), 0 ≤ b ∧ b ≤ 1 := fun b h => hb b (List.mem_of_mem_drop h)
  have k1 := bitsAll_wordsL ht hbt
  have k2 := bitsAll_wordsL hd hbd
  have d1 := wordsL_bd ht hbt
  have d2 := wordsL_bd hd hbd
  have l1 := wordsL_len (bs.take (W - 2)) (W - 2) 1
  have l2 := wordsL_len (bs.drop (W - 2)) W (m + 1)
  unfold stateF
  dsimp only
  revert k1 k2 d1 d2 l1 l2
  generalize wordsL (bs.take (W - 2)) (W - 2) 1 = u
  generalize wordsL (bs.drop (W - 2)) W (m + 1) = v
  intro k1 k2 d1 d2 l1 l2
  match u, l1 with
  | [c], _ =>
    match v, l2 with
    | g :: r, l2 =>
      have a := d1 c (List.mem_cons_self ..)
      have b := d2 g (List.mem_cons_self ..)
      rw [wm.two] at a
      refine ⟨?_, a.1, by show c < _; omega, b.1, b.2, by simpa using l2, fun n h => d2 n (List.mem_cons_of_mem _ h)⟩
      show bitsAll [c] (W - 2) ++ bitsAll (g :: r) W = bs
      rw [k1, k2, List.take_append_drop]
theorem eqv_ints : ∀ ns : List Int, PyData.eqvAll (ns.map .int) (ns.map .int) = true
  | [] => by simp [PyData.eqvAll]
  | n :: ns => by simp [PyData.eqvAll, PyData.eqv, eqv_ints ns]
/-- a state as data -/
def stD (C G : Int) (ns : List Int) : PyData := .tuple [.int C, .int G, .list (ns.map .int)]
theorem sm_ints {ns : List Int} {n : Nat} (h : ∀ n ∈ ns, n.natAbs < 10 ^ 40) (hl : ns.length ≤ n) : Sm (n * 135) 1 (.list (ns.map .int)) :=
  Sm.list (n := 134) (k := 0) (fun d hd => by
    obtain ⟨x, hx, rfl⟩ := List.mem_map.mp hd
    exact ⟨Sm.int (h x hx), by simp [PyData.hasDict]⟩) (by rw [List.length_map]; exact hl)
theorem sm_ints30 {ns : List Int} (h : ∀ n ∈ ns, n.natAbs < 10 ^ 40) (hl : ns.length ≤ 30) : Sm 7000 2 (.list (ns.map .int)) := (sm_ints h hl).mono (by decide) (by decide)
theorem nd_ints (ns : List Int) : (PyData.list (ns.map .int)).hasDict = false := by
  have : PyData.hasDictAll (ns.map .int) = false := by
    induction ns with
    | nil => simp [PyData.hasDictAll]
    | cons n ns ih => simp [PyData.hasDictAll, PyData.hasDict, ih]
  simpa [PyData.hasDict] using this
theorem st_show {C G : Int} {ns : List Int} (hc : C.natAbs < 10 ^ 40) (hg : G.natAbs < 10 ^ 40) (h : ∀ n ∈ ns, n.natAbs < 10 ^ 40) (hl : ns.length ≤ 30) : ShowOk (stD C G ns) := by
  have : Sm (3 * 7001) 3 (stD C G ns) := Sm.tup (n := 7000) (k := 2) (N := 3) (fun d hd => by
    simp only [List.mem_cons, List.not_mem_nil, or_false] at hd
    rcases hd with rfl | rfl | rfl
    · exact ⟨(Sm.int hc).mono (by decide) (by decide), by simp [PyData.hasDict]⟩
    · exact ⟨(Sm.int hg).mono (by decide) (by decide), by simp [PyData.hasDict]⟩
    · exact ⟨sm_ints30 h hl, nd_ints ns⟩) (by simp)
  exact this.show (by decide) (by decide)
theorem st_rp {K : PySem.W.Frag} {H : Hp} {t l : Addr} {C G : Int} {ns : List Int} (e : H t = some (.tup [.int C, .int G, .ref l])) (e2 : H l = some (.lst (vi ns))) : Rp K H (.ref t) (stD C G ns) :=
  rp_of (.tup (.inl (.inl e)) (.cons (.int C) (.cons (.int G) (.cons (.lst (.inl (.inl e2)) (dpAll_ints ns)) .nil))))
theorem li_rp {K : PySem.W.Frag} {H : Hp} {l : Addr} {ns : List Int} (e2 : H l = some (.lst (vi ns))) : Rp K H (.ref l) (.list (ns.map .int)) := rp_of (.lst (.inl (.inl e2)) (dpAll_ints ns))
theorem pair_show {s : Str} {d : PyData} (h1 : Sm 20 0 (.str s)) (h2 : Sm 7000 2 d) (h3 : d.hasDict = false) : ShowOk (.tuple [.str s, d]) := by
  have : Sm (2 * 7001) 3 (.tuple [.str s, d]) := Sm.tup (n := 7000) (k := 2) (N := 2) (fun e hd => by
    simp only [List.mem_cons, List.not_mem_nil, or_false] at hd
    rcases hd with rfl | rfl
    · exact ⟨h1.mono (by decide) (by decide), by simp [PyData.hasDict]⟩
    · exact ⟨h2, h3⟩) (by simp)
  exact this.show (by decide) (by decide)
theorem pair_rp {K : PySem.W.Frag} {H : Hp} {t : Addr} {s : Str} {v : V} {d : PyData} (e : H t = some (.tup [.str s, v])) (h : Dp K H v d) : Rp K H (.ref t) (.tuple [.str s, d]) :=
  rp_of (.tup (.inl (.inl e)) (.cons (.str s) (.cons h .nil)))
theorem like_same {K : PySem.W.Frag} {H : Hp} {x y : V} {d : PyData} {Q : VK} {E : XK} (h1 : Rp K H x d) (h2 : Rp K H y d) (ok : ShowOk d) (q : Q (.bl true) H) : likeR K x y H Q E :=
  ⟨d, d, h1, h2, ok, ok, by rw [decide_eq_true rfl]; exact q⟩
theorem ne_same {K : PySem.W.Frag} {H : Hp} {p q : Addr} {ns : List Int} {Q : VK} (h1 : Sk true K H p (vi ns)) (h2 : Sk true K H q (vi ns)) (hn : ∀ n ∈ ns, n.natAbs < 10 ^ 40) (hl : ns.length ≤ 30) (g : Q (.bl false) H) : rNeA K (.ref p) (.ref q) H Q := by
  refine .inr ⟨.list (ns.map .int), .list (ns.map .int), .lst h1 (dpAll_ints ns), .lst h2 (dpAll_ints ns), (sm_ints30 hn hl).shaped (by decide) (nd_ints ns), (sm_ints30 hn hl).shaped (by decide) (nd_ints ns), ?_⟩
  rw [show PyData.eqv (.list (ns.map .int)) (.list (ns.map .int)) = true by simp only [PyData.eqv, eqv_ints]]
  exact g
end T

set_option Elab.async false
set_option linter.all false
set_option maxRecDepth 100000
set_option maxHeartbeats 16000000
/-! k62, part M: the law. -/
namespace T
open PySem PySem.Spec PyProof.Rows L2 VI VC VG VD VE VF VH VL VM
theorem sc_law : FnScope ["_law_script", "_law_bag", "_law_turn", "_law_wide", "_law_state_here", "_law_step_here", "_law_bits", "_law_given", "_law_kept", "_law_which", "_law_odd", "_law_drawn", "_law_width_bent", "_law_spot", "_law_held", "_law_store", "_law_due", "_law_wrong", "_law_at", "_law_told_here", "_law_k"] ["_law_script"] (defScope st_law) := ⟨rfl, rfl, rfl, by decide +kernel, rfl, by decide +kernel, by decide +kernel⟩
set_option hygiene false in
local macro_rules | `(tactic| walk_at "s") => `(tactic| with_reducible first | refine i_seq ?_ | refine i_asg ?_ | refine i_ret ?_ | refine i_drop ?_ | refine i_next ?_ | refine i_nx ?_ | refine i_rt ?_ | refine i_ct ?_ | refine i_bk ?_ | refine i_op ?_ | refine i_un ?_ | refine i_cons ?_ | refine i_nil ?_ | refine i_cb ?_ | refine i_calls ?_ | refine i_c ?_ | refine i_ifs ?_ | refine i_ife ?_ | refine i_test ?_ | refine i_tb ?_ | refine i_bl ?_ | refine i_and ?_ | refine i_or ?_ | refine i_not ?_ | refine i_andv ?_ | refine i_orv ?_ | refine i_notv ?_ | refine i_chain ?_ | refine i_addI ?_ | refine i_sub ?_ | refine i_neg ?_ | refine i_eqI ?_ | refine i_eqS ?_ | refine i_neI ?_ | refine i_neS ?_ | refine i_lt ?_ | refine i_le ?_ | refine i_gt ?_ | refine i_ge ?_ | refine i_isN ?_ | refine i_notN ?_ | refine i_gnil ?_ | refine i_gcons ?_ | refine i_gsub ?_ | refine i_par ?_ | refine i_par3 ?_ | refine i_two ?_ | refine i_three ?_ | refine i_slice ?_ | refine i_nopart ?_ | refine i_part ?_ | refine i_ip ?_ | refine i_yes ?_ | refine i_iftrue ?_ | refine i_ifnt ?_ | refine i_ifnf ?_ | refine i_iffalse ?_ | refine i_S1 ?_ | refine i_S2 ?_ | refine i_S3 ?_ | refine i_S4 ?_ | refine i_S5 ?_ | refine i_intC ?_ | refine i_tupN ?_ | refine i_lstN ?_ | refine i_raise ?_ | refine i_for ?_ | refine i_lc ?_ | refine i_rg1 ?_ | refine i_rg2 ?_ | refine i_rg3 ?_ | refine i_sq ?_ | refine i_en ?_ | refine i_rv ?_ | refine i_callks ?_ | refine i_star ?_ | refine i_lc2 ?_ | walk_at "v")
set_option hygiene false in
local macro_rules | `(tactic| walk_at "v") => `(tactic| with_reducible first | refine i_v0 ?_ | refine i_v1 ?_ | refine i_v2 ?_ | refine i_v3 ?_ | refine i_v4 ?_ | refine i_v5 ?_ | refine i_v6 ?_ | refine i_v7 ?_ | refine i_v8 ?_ | refine i_v9 ?_ | refine i_v10 ?_ | refine i_v11 ?_ | refine i_v12 ?_ | refine i_v13 ?_ | refine i_v14 ?_ | refine i_v15 ?_ | refine i_v16 ?_ | refine i_v17 ?_ | refine i_v18 ?_ | refine i_v19 ?_ | refine i_v20 ?_ | refine i_v21 ?_ | refine i_v22 ?_ | refine i_v23 ?_ | refine i_v24 ?_ | refine i_v25 ?_ | refine i_v26 ?_ | refine i_v27 ?_ | refine i_v28 ?_ | refine i_v29 ?_ | refine i_n0 ?_ | refine i_n1 ?_ | refine i_n2 ?_ | refine i_n3 ?_ | refine i_n4 ?_ | refine i_n5 ?_ | refine i_n6 ?_ | refine i_n7 ?_ | refine i_n8 ?_ | refine i_n9 ?_ | refine i_n10 ?_ | refine i_n11 ?_ | refine i_n12 ?_ | refine i_n13 ?_ | refine i_n14 ?_ | refine i_n15 ?_ | refine i_n16 ?_ | refine i_n17 ?_ | refine i_n18 ?_ | refine i_n19 ?_ | refine i_n20 ?_ | refine i_n21 ?_ | refine i_n22 ?_ | refine i_n23 ?_ | refine i_n24 ?_ | refine i_n25 ?_ | refine i_n26 ?_ | refine i_n27 ?_ | refine i_n28 ?_ | refine i_n29 ?_)
theorem stCk_good {numB : V → Prop} {wrdB : Int → Prop} {x0 x1 x2 : V} {W m : Nat} {C G : Int} {ns : List Int} (wm : WM W m) (c0 : 0 ≤ C) (c1 : C < m) (g0 : 0 ≤ G) (g1 : G ≤ 2 ^ W - 1) (hl : ns.length = m) (hn : ∀ n ∈ ns, 0 ≤ n ∧ n ≤ 2 ^ W - 1) {good : Nat → Nat → List PyData → Prop} {bb : Bool} (h : good W m (ns.map .int)) :
    StateCk numB wrdB x0 x1 x2 (.int W) (.int C) (.int G) (seqD bb (ns.map .int)) good :=
  .inr ⟨W, m, rfl, wm, .inr ⟨by simp [inI]; omega, .inr ⟨by simp [inI]; omega, .inr ⟨_, seqD_items _ _, by rw [List.length_map, hl], .inl ⟨ag_ints hn, h⟩⟩⟩⟩⟩
theorem btCk_good {numB : V → Prop} {bitB : Int → Prop} {x0 : V} {W m : Nat} {ns : List Int} (wm : WM W m) (hl : ns.length = manyB W m) (hn : ∀ n ∈ ns, 0 ≤ n ∧ n ≤ 1) {good : Nat → Nat → List PyData → Prop} {bb : Bool} (h : good W m (ns.map .int)) :
    BitsCk numB bitB x0 (.int W) (seqD bb (ns.map .int)) good :=
  .inr ⟨W, m, rfl, wm, .inr ⟨_, seqD_items _ _, by rw [List.length_map, hl], .inl ⟨ag_ints hn, h⟩⟩⟩
theorem btCk_bad {numB : V → Prop} {bitB : Int → Prop} {x0 : V} {W m : Nat} {d : PyData} {e : Int} (wm : WM W m) (h : BadRow (manyB W m) d e) {good : Nat → Nat → List PyData → Prop} (hb : bitB e) : BitsCk numB bitB x0 (.int W) d good := by
  refine .inr ⟨W, m, rfl, wm, ?_⟩
  rcases h with ⟨a, rfl⟩ | ⟨l, k, a, c, f, rfl⟩
  · exact .inl ⟨a, hb⟩
  · exact .inr ⟨l, a, c, .inr ⟨k, f, hb⟩⟩
/-- a state, as it lies -/
structure StAt (H : Hp) (b : Addr) (W m : Nat) (C G : Int) (ns : List Int) (t l : Addr) : Prop where
  c0 : 0 ≤ C
  c1 : C < m
  g0 : 0 ≤ G
  g1 : G ≤ 2 ^ W - 1
  hl : ns.length = m
  hn : ∀ n ∈ ns, 0 ≤ n ∧ n ≤ 2 ^ W - 1
  ht : H t = some (.tup [.int C, .int G, .ref l])
  hs : H l = some (.lst (vi ns))
  lb : l ≠ b
  tb : t ≠ b
theorem StAt.same {H H1 : Hp} {b : Addr} {W m : Nat} {C G : Int} {ns : List Int} {t l : Addr} (h : StAt H b W m C G ns t l) (s : Same H H1) : StAt H1 b W m C G ns t l := ⟨h.c0, h.c1, h.g0, h.g1, h.hl, h.hn, s _ _ h.ht, s _ _ h.hs, h.lb, h.tb⟩
theorem StAt.hid {H H1 : Hp} {b : Addr} {W m : Nat} {C G : Int} {ns : List Int} {t l : Addr} (h : StAt H b W m C G ns t l) (s : Same (Hid b H) H1) : StAt H1 b W m C G ns t l := ⟨h.c0, h.c1, h.g0, h.g1, h.hl, h.hn, hid_get s h.ht h.tb, hid_get s h.hs h.lb, h.lb, h.tb⟩
theorem WM.top {W m : Nat} (wm : WM W m) : (8 : Int) ≤ 2 ^ W ∧ (2 : Int) ^ W ≤ 16 := by rcases wm with ⟨rfl, rfl⟩ | ⟨rfl, rfl⟩ <;> decide
theorem small_ns {W m : Nat} {ns : List Int} (wm : WM W m) (h : ∀ n ∈ ns, 0 ≤ n ∧ n ≤ 2 ^ W - 1) : ∀ n ∈ ns, n.natAbs < 10 ^ 40 := fun n hn => by
  have := h n hn
  have := wm.top
  omega
theorem small_bits {ns : List Int} (h : ∀ n ∈ ns, 0 ≤ n ∧ n ≤ 1) : ∀ n ∈ ns, n.natAbs < 10 ^ 40 := fun n hn => by
  have := h n hn
  omega
theorem StAt.show {H : Hp} {b : Addr} {W m : Nat} {C G : Int} {ns : List Int} {t l : Addr} (h : StAt H b W m C G ns t l) (wm : WM W m) : ShowOk (stD C G ns) := by
  have a := h.c0
  have c := h.c1
  have d := h.g0
  have e := h.g1
  have f := wm.top
  have i := wm.le
  have j := h.hl
  exact st_show (by omega) (by omega) (small_ns wm h.hn) (by omega)
theorem StAt.rp {K : PySem.W.Frag} {H : Hp} {b : Addr} {W m : Nat} {C G : Int} {ns : List Int} {t l : Addr} (h : StAt H b W m C G ns t l) : Rp K H (.ref t) (stD C G ns) := st_rp h.ht h.hs
theorem bits_show {ns : List Int} (h : ∀ n ∈ ns, 0 ≤ n ∧ n ≤ 1) (hl : ns.length ≤ 30) : ShowOk (.list (ns.map .int)) := (sm_ints30 (small_bits h) hl).show (by decide) (by decide)
section
variable {P : Program} {w : World} {K : PySem.W.Frag} {mg : Str → Option Value} {base : Heap} {C_InvalidNumber C_BadBits C_BadWords : Addr}
abbrev sp_law : PySem.W.Frag → Sp := fun K => S1 fun x H Q E => ∃ (a : Addr) (ns : List Int), x = .ref a ∧ SqL K H a (vi ns) ∧ ∀ H', Q (.bl true) H'
theorem cl_law (nb : Nb mg) (D_law : DefAt K mg "law" st_law) (C_plain_step : Cl P w K mg base 15 "plain_step" ["width", "counter", "hand", "cells"] (sp_step K C_InvalidNumber C_BadWords) [[], ["counter", "hand", "cells"]]) (C_state_bits : Cl P w K mg base 15 "state_bits" ["width", "counter", "hand", "cells"] (sp_sbits K C_InvalidNumber C_BadWords) [[]]) (C_state_of : Cl P w K mg base 18 "state_of" ["width", "bits"] (sp_sof K C_InvalidNumber C_BadBits) [[]]) (C_law_start : Cl P w K mg base 3 "_law_start" ["_law_script"] (sp_start K) [[]]) (C_law_draw : Cl P w K mg base 3 "_law_draw" ["_law_bag", "_law_many"] sp_draw [[]]) (C_law_pick : Cl P w K mg base 6 "_law_pick" ["_law_bag", "_law_some"] sp_pick [[]]) (C_law_like : ClG P w K mg base 3 "_law_like" ["_law_told_here", "_law_due"] (sp_like K)) (C_law_step : Cl P w K mg base 3 "_law_step" ["_law_wide", "_law_spot", "_law_held", "_law_store"] (sp_lstep K) [[]]) (C_law_state : Cl P w K mg base 9 "_law_state" ["_law_bag", "_law_wide"] sp_state [[]]) (C_law_state_bits : Cl P w K mg base 9 "_law_state_bits" ["_law_wide", "_law_state_here"] (sp_lsbits K) [[]]) (C_law_many_bits : Cl P w K mg base 3 "_law_many_bits" ["_law_wide"] sp_manyb [[]]) (C_law_told : Cl P w K mg base 18 "_law_told" ["_law_which", "_law_wide", "_law_spot", "_law_held", "_law_store"] (sp_told K) [[]]) (C_law_read : Cl P w K mg base 21 "_law_read" ["_law_wide", "_law_bits"] (sp_read K) [[]]) (C_law_bent : Cl P w K mg base 9 "_law_bent" ["_law_bag", "_law_wide", "_law_state_here"] (sp_bent K) [[]]) (C_law_bent_bits : Cl P w K mg base 9 "_law_bent_bits" ["_law_bag", "_law_bits"] (sp_bentb K) [[]])  : ClG P w K mg base 24 "law" ["_law_script"] (sp_law K) := by
  obtain ⟨f, fd, hm, F⟩ := D_law
  refine clG_of (k := 23) hm F (fun kV doc pm an cdv ct us hl => match us, hl with | [_], _ => rfl) sc_law ?len (fun cdv A outer s H vs Q E hgd hr h => ⟨_, (by exact (pss_cons (ps_set (i := 1) sc_law.nd rfl (Or.inr rfl) (pe_cl C_law_start hr (by decide) (fun σ => passAt (takes_of rfl rfl rfl rfl) σ) (pa_cons (pv 0) pa_nil)))
      (pss_cons (ps_for PassesOwn.leaving rfl (pi_rg1 rfl nb.n_range (pa_cons (pe_cl C_law_pick hr (by decide) (fun σ => passAt (takes_of rfl rfl rfl rfl) σ) (pa_cons (pv 1) (pa_cons (pe_lst (pa_cons pe_int (pa_cons pe_int (pa_cons pe_int pa_nil)))) pa_nil))) pa_nil)) (pg_name (i := 2) sc_law.nd rfl (Or.inl rfl))
      (pss_cons (ps_set (i := 3) sc_law.nd rfl (Or.inl rfl) (pe_op (k_add (K := K) rfl) pe_int (pe_cl C_law_draw hr (by decide) (fun σ => passAt (takes_of rfl rfl rfl rfl) σ) (pa_cons (pv 1) (pa_cons pe_int pa_nil)))))
      (pss_cons (ps_set (i := 4) sc_law.nd rfl (Or.inl rfl) (pe_cl C_law_state hr (by decide) (fun σ => passAt (takes_of rfl rfl rfl rfl) σ) (pa_cons (pv 1) (pa_cons (pv 3) pa_nil))))
      (pss_cons (ps_for PassesOwn.leaving rfl (pi_rg1 rfl nb.n_range (pa_cons (pe_cl C_law_draw hr (by decide) (fun σ => passAt (takes_of rfl rfl rfl rfl) σ) (pa_cons (pv 1) (pa_cons pe_int pa_nil))) pa_nil)) (pg_name (i := 5) sc_law.nd rfl (Or.inl rfl))
      (pss_cons (ps_asg (pv 4) (k_gtup (K := K) rfl rfl (pgs_cons (pg_name (i := 13) sc_law.nd rfl (Or.inl rfl)) (pgs_cons (pg_name (i := 14) sc_law.nd rfl (Or.inl rfl)) (pgs_cons (pg_name (i := 15) sc_law.nd rfl (Or.inl rfl)) pgs_nil)))))
      (pss_cons (ps_set (i := 7) sc_law.nd rfl (Or.inl rfl) (pe_ifExp (pt_cmpR (k_eq (K := K) rfl hr.units) (pe_cl C_law_draw hr (by decide) (fun σ => passAt (takes_of rfl rfl rfl rfl) σ) (pa_cons (pv 1) (pa_cons pe_int pa_nil))) pe_int (nomark _)) (pe_callTy (k_tuple (K := K) rfl) (by rfl) nb.n_tuple (by decide +kernel) (pa_cons (pv 15) pa_nil)) (pe_callTy (k_list (K := K) rfl) (by rfl) nb.n_list (by decide +kernel) (pa_cons (pv 15) pa_nil))))
      (pss_cons (ps_par (i := 19) (j := 16) rfl sc_law.nd rfl rfl (by decide) rfl rfl (pa_cons (pe_cl C_law_told hr (by decide) (fun σ => passAt (takes_of rfl rfl rfl rfl) σ) (pa_cons pe_int (pa_cons (pv 3) (pa_cons (pv 13) (pa_cons (pv 14) (pa_cons (pv 7) pa_nil)))))) (pa_cons (pe_cl C_law_step hr (by decide) (fun σ => passAt (takes_of rfl rfl rfl rfl) σ) (pa_cons (pv 3) (pa_cons (pv 13) (pa_cons (pv 14) (pa_cons (pv 15) pa_nil))))) pa_nil)) (by rfl))
      (pss_cons (ps_if (PW.pt (pw_or (pt_not (pt_val (pe_callGX C_law_like hgd hr (by decide) (fun σ => passAt (takes_of rfl rfl rfl rfl) σ) (pa_cons (pv 19) (pa_cons (pv 16) pa_nil))))) (pw_or1 (pt_cmpR (k_ne (K := K) rfl hr.units) (pe_callTy (k_list (K := K) rfl) (by rfl) nb.n_list (by decide +kernel) (pa_cons (pv 7) pa_nil)) (pv 15) (nomark _)))))
      (pss_one (ps_ret pe_bl))
      pss_nil)
      (pss_cons (ps_asg pe_int (pg_sub (pe_ix (k_ix (K := K) rfl) (pv 19) pe_int (fun _ _ => rfl)) pe_int set_list))
      (pss_cons (ps_if (PW.pt (pw_or (pt_cmpR (k_ne (K := K) rfl hr.units) (pe_callTy (k_list (K := K) rfl) (by rfl) nb.n_list (by decide +kernel) (pa_cons (pv 7) pa_nil)) (pv 15) (nomark _)) (pw_or1 (pt_not (pt_val (pe_callGX C_law_like hgd hr (by decide) (fun σ => passAt (takes_of rfl rfl rfl rfl) σ) (pa_cons (pe_clK ["counter", "hand", "cells"] C_plain_step hr (by decide) (fun σ => passAt (takes_of rfl rfl rfl rfl) σ) (pa_cons (pv 3) pa_nil) (pk_cons (pv 13) (pk_cons (pv 14) (pk_cons (pe_callTy (k_list (K := K) rfl) (by rfl) nb.n_list (by decide +kernel) (pa_cons (pv 15) pa_nil)) pk_nil)))) (pa_cons (pv 16) pa_nil))))))))
      (pss_one (ps_ret pe_bl))
      pss_nil)
      (pss_one (ps_set (i := 4) sc_law.nd rfl (Or.inl rfl) (pv 16))))))))))
      (pss_cons (ps_set (i := 6) sc_law.nd rfl (Or.inl rfl) (pe_cl C_law_state_bits hr (by decide) (fun σ => passAt (takes_of rfl rfl rfl rfl) σ) (pa_cons (pv 3) (pa_cons (pv 4) pa_nil))))
      (pss_cons (ps_set (i := 7) sc_law.nd rfl (Or.inl rfl) (pe_callTy (k_list (K := K) rfl) (by rfl) nb.n_list (by decide +kernel) (pa_cons (pe_ix (k_ix (K := K) rfl) (pv 4) pe_int (fun _ _ => rfl)) pa_nil)))
      (pss_cons (ps_if (PW.pt (pw_or (pt_not (pt_val (pe_callGX C_law_like hgd hr (by decide) (fun σ => passAt (takes_of rfl rfl rfl rfl) σ) (pa_cons (pe_cl C_state_bits hr (by decide) (fun σ => passAt (takes_of rfl rfl rfl rfl) σ) (pa_cons (pv 3) (pa_cons (pe_ix (k_ix (K := K) rfl) (pv 4) pe_int (fun _ _ => rfl)) (pa_cons (pe_ix (k_ix (K := K) rfl) (pv 4) pe_int (fun _ _ => rfl)) (pa_cons (pv 7) pa_nil))))) (pa_cons (pv 6) pa_nil))))) (pw_or1 (pt_cmpR (k_ne (K := K) rfl hr.units) (pv 7) (pe_ix (k_ix (K := K) rfl) (pv 4) pe_int (fun _ _ => rfl)) (nomark _)))))
      (pss_one (ps_ret pe_bl))
      pss_nil)
      (pss_cons (ps_if (PW.pt (pw_or (pt_not (pt_val (pe_callGX C_law_like hgd hr (by decide) (fun σ => passAt (takes_of rfl rfl rfl rfl) σ) (pa_cons (pe_cl C_state_of hr (by decide) (fun σ => passAt (takes_of rfl rfl rfl rfl) σ) (pa_cons (pv 3) (pa_cons (pe_callTy (k_list (K := K) rfl) (by rfl) nb.n_list (by decide +kernel) (pa_cons (pv 6) pa_nil)) pa_nil))) (pa_cons (pv 4) pa_nil))))) (pw_or1 (pt_not (pt_val (pe_callGX C_law_like hgd hr (by decide) (fun σ => passAt (takes_of rfl rfl rfl rfl) σ) (pa_cons (pe_cl C_state_of hr (by decide) (fun σ => passAt (takes_of rfl rfl rfl rfl) σ) (pa_cons (pv 3) (pa_cons (pe_callTy (k_tuple (K := K) rfl) (by rfl) nb.n_tuple (by decide +kernel) (pa_cons (pv 6) pa_nil)) pa_nil))) (pa_cons (pv 4) pa_nil))))))))
      (pss_one (ps_ret pe_bl))
      pss_nil)
      (pss_cons (ps_asg (pe_cl C_law_bent hr (by decide) (fun σ => passAt (takes_of rfl rfl rfl rfl) σ) (pa_cons (pv 1) (pa_cons (pv 3) (pa_cons (pv 4) pa_nil)))) (k_gtup (K := K) rfl rfl (pgs_cons (pg_name (i := 12) sc_law.nd rfl (Or.inl rfl)) (pgs_cons (pg_name (i := 13) sc_law.nd rfl (Or.inl rfl)) (pgs_cons (pg_name (i := 14) sc_law.nd rfl (Or.inl rfl)) (pgs_cons (pg_name (i := 15) sc_law.nd rfl (Or.inl rfl)) (pgs_cons (pg_name (i := 16) sc_law.nd rfl (Or.inl rfl)) pgs_nil)))))))
      (pss_cons (ps_set (i := 8) sc_law.nd rfl (Or.inl rfl) (pe_callB (k_repr (K := K) rfl hgd hr.units) (by rfl) nb.n_repr (by decide +kernel) (pa_cons (pv 15) pa_nil)))
      (pss_cons (ps_for PassesOwn.leaving rfl (pi_rg1 rfl nb.n_range (pa_cons pe_int pa_nil)) (pg_name (i := 9) sc_law.nd rfl (Or.inl rfl))
      (pss_one (ps_if (PW.pt (pw_or (pt_not (pt_val (pe_callGX C_law_like hgd hr (by decide) (fun σ => passAt (takes_of rfl rfl rfl rfl) σ) (pa_cons (pe_cl C_law_told hr (by decide) (fun σ => passAt (takes_of rfl rfl rfl rfl) σ) (pa_cons (pv 9) (pa_cons (pv 12) (pa_cons (pv 13) (pa_cons (pv 14) (pa_cons (pv 15) pa_nil)))))) (pa_cons (pv 16) pa_nil))))) (pw_or1 (pt_cmpR (k_ne (K := K) rfl hr.units) (pe_callB (k_repr (K := K) rfl hgd hr.units) (by rfl) nb.n_repr (by decide +kernel) (pa_cons (pv 15) pa_nil)) (pv 8) (nomark _)))))
      (pss_one (ps_ret pe_bl))
      pss_nil)))
      (pss_cons (ps_asg (pe_cl C_law_bent_bits hr (by decide) (fun σ => passAt (takes_of rfl rfl rfl rfl) σ) (pa_cons (pv 1) (pa_cons (pv 6) pa_nil))) (k_gtup (K := K) rfl rfl (pgs_cons (pg_name (i := 17) sc_law.nd rfl (Or.inl rfl)) (pgs_cons (pg_name (i := 18) sc_law.nd rfl (Or.inl rfl)) pgs_nil))))
      (pss_cons (ps_if (pt_not (pt_val (pe_callGX C_law_like hgd hr (by decide) (fun σ => passAt (takes_of rfl rfl rfl rfl) σ) (pa_cons (pe_cl C_law_read hr (by decide) (fun σ => passAt (takes_of rfl rfl rfl rfl) σ) (pa_cons (pv 3) (pa_cons (pv 17) pa_nil))) (pa_cons (pe_tup (pa_cons pe_str (pa_cons (pv 18) pa_nil))) pa_nil)))))
      (pss_one (ps_ret pe_bl))
      pss_nil)
      (pss_cons (ps_set (i := 10) sc_law.nd rfl (Or.inl rfl) (pe_cl C_law_pick hr (by decide) (fun σ => passAt (takes_of rfl rfl rfl rfl) σ) (pa_cons (pv 1) (pa_cons (pe_lst (pa_cons pe_int (pa_cons pe_int (pa_cons pe_bl (pa_cons pe_non (pa_cons pe_str (pa_cons pe_int (pa_cons (pe_un un_negA pe_int) pa_nil)))))))) pa_nil))))
      (pss_cons (ps_if (pt_not (pt_val (pe_callGX C_law_like hgd hr (by decide) (fun σ => passAt (takes_of rfl rfl rfl rfl) σ) (pa_cons (pe_cl C_law_read hr (by decide) (fun σ => passAt (takes_of rfl rfl rfl rfl) σ) (pa_cons (pv 10) (pa_cons (pe_cl C_law_pick hr (by decide) (fun σ => passAt (takes_of rfl rfl rfl rfl) σ) (pa_cons (pv 1) (pa_cons (pe_lst (pa_cons (pv 17) (pa_cons (pv 6) pa_nil))) pa_nil))) pa_nil))) (pa_cons (pe_tup (pa_cons pe_str (pa_cons (pv 10) pa_nil))) pa_nil)))))
      (pss_one (ps_ret pe_bl))
      pss_nil)
      (pss_cons (ps_setLc (i := 11) (own := [("_law_k", 20)]) rfl sc_law.nd rfl rfl (sw_true rfl rfl rfl (by decide +kernel)) (pi_rg1 rfl nb.n_range (pa_cons (pe_cl C_law_many_bits hr (by decide) (fun σ => passAt (takes_of rfl rfl rfl rfl) σ) (pa_cons (pv 3) pa_nil)) pa_nil)) (blkOk_by (own := [("_law_k", 20)]) (N := ["_law_script", "_law_bag", "_law_turn", "_law_wide", "_law_state_here", "_law_step_here", "_law_bits", "_law_given", "_law_kept", "_law_which", "_law_odd", "_law_drawn", "_law_width_bent", "_law_spot", "_law_held", "_law_store", "_law_due", "_law_wrong", "_law_at", "_law_told_here", "_law_k"]) (sc := defScope st_law) (by decide +kernel)) (fun _ _ _ _ _ => (pg_name (i := 20) sc_law.nd rfl (Or.inl rfl))) (fun _ _ _ _ _ => pts_nil) (fun _ _ _ _ _ => (pe_cl C_law_draw hr (by decide) (fun σ => passN σ) (pa_cons (pv 1) (pa_cons pe_int pa_nil)))))
      (pss_one (ps_if (pt_not (pt_val (pe_callGX C_law_like hgd hr (by decide) (fun σ => passAt (takes_of rfl rfl rfl rfl) σ) (pa_cons (pe_cl C_state_bits hr (by decide) (fun σ => passAt (takes_of rfl rfl rfl rfl) σ) (pa_cons (pv 3) (pa_cons (pe_ix (k_ix (K := K) rfl) (pe_cl C_state_of hr (by decide) (fun σ => passAt (takes_of rfl rfl rfl rfl) σ) (pa_cons (pv 3) (pa_cons (pv 11) pa_nil))) pe_int (fun _ _ => rfl)) (pa_cons (pe_ix (k_ix (K := K) rfl) (pe_cl C_state_of hr (by decide) (fun σ => passAt (takes_of rfl rfl rfl rfl) σ) (pa_cons (pv 3) (pa_cons (pv 11) pa_nil))) pe_int (fun _ _ => rfl)) (pa_cons (pe_ix (k_ix (K := K) rfl) (pe_cl C_state_of hr (by decide) (fun σ => passAt (takes_of rfl rfl rfl rfl) σ) (pa_cons (pv 3) (pa_cons (pv 11) pa_nil))) pe_int (fun _ _ => rfl)) pa_nil))))) (pa_cons (pv 11) pa_nil)))))
      (pss_one (ps_ret pe_bl))
      pss_nil))))))))))))))))))
      (pss_one (ps_ret pe_bl))))), ?_⟩)
  case len =>
    intro vs H Q E h
    obtain ⟨_, rfl, _⟩ := h
    rfl
  obtain ⟨x0, rfl, h⟩ := h
  refine i_start [some x0, none, none, none, none, none, none, none, none, none, none, none, none, none, none, none, none, none, none, none, none] rfl ?_
  obtain ⟨a, ns0, rfl, h1, g⟩ := h
  repeat walk_at "s"
  refine ⟨a, ns0, rfl, h1, fun b L H1 hb0 hL0 hb1 s1 => ?_⟩
  repeat walk_at "s"
  refine i_newL fun p1 H2 hp1 e1 s2 => ?_
  repeat walk_at "s"
  refine ⟨b, L, p1, _, rfl, rfl, hb1.same s2, e1, hb1.ne hp1, by simp, by simp, fun i v H3 hv hb3 s3 => ?_⟩
  obtain ⟨j, rfl, j0, j1⟩ : ∃ j : Int, v = .int j ∧ 0 ≤ j ∧ j ≤ 3 := mem_all (P := fun v => ∃ j : Int, v = .int j ∧ 0 ≤ j ∧ j ≤ 3) (by
    intro v hv
    simp only [List.mem_cons, List.not_mem_nil, or_false] at hv
    rcases hv with rfl | rfl | rfl
    · exact ⟨1, rfl, by decide, by decide⟩
    · exact ⟨2, rfl, by decide, by decide⟩
    · exact ⟨3, rfl, by decide, by decide⟩) hv
  repeat walk_at "s"
  refine ⟨j, rfl, by omega, by omega, for_G (fun i σ H' => (∃ x2 x3 x4 x5 x6 x7 x8 x9 x10 x11 x12 x13 x14 x15 x16 x17 x18 x19 x20, σ = [some (.ref a), some (.ref b), x2, x3, x4, x5, x6, x7, x8, x9, x10, x11, x12, x13, x14, x15, x16, x17, x18, x19, x20]) ∧ Bag H' b L) ⟨⟨_, _, _, _, _, _, _, _, _, _, _, _, _, _, _, _, _, _, _, rfl⟩, hb3⟩ (fun _ _ _ _ _ => trivial) ?_ ?_⟩
  rotate_left
  · rintro σ H4 ⟨⟨x2, x3, x4, x5, x6, x7, x8, x9, x10, x11, x12, x13, x14, x15, x16, x17, x18, x19, x20, rfl⟩, hb4⟩
    repeat walk_at "s"
    exact g _
  clear hb3 s3 hv e1 s2 hp1 hb1 s1
  rintro i x σ H4 H4' hi ⟨⟨x2, x3, x4, x5, x6, x7, x8, x9, x10, x11, x12, x13, x14, x15, x16, x17, x18, x19, x20, rfl⟩, hb4⟩ ⟨rfl, rfl⟩
  repeat walk_at "s"
  refine ⟨b, L, _, rfl, rfl, hb4, by omega, by omega, fun d H5 d0 d1 hb5 s5 => ?_⟩
  repeat walk_at "s"
  obtain ⟨W, m, wm, hW⟩ : ∃ W m : Nat, WM W m ∧ 3 + d = (W : Int) := by
    have : d = 0 ∨ d = 1 := by omega
    rcases this with rfl | rfl
    · exact ⟨3, 2, .inl ⟨rfl, rfl⟩, rfl⟩
    · exact ⟨4, 4, .inr ⟨rfl, rfl⟩, rfl⟩
  rw [hW]
  clear hW d0 d1 s5 hb4
  have wle := wm.le
  have wtop := wm.top
  have wmany := wm.many
  refine ⟨b, L, W, m, rfl, rfl, wm, hb5, fun C0 G0 ns0' t0 l0 H6 c0 c1 g0 g1 hl hn hb6 s6 ht hlst lb tb => ?_⟩
  have st6 : StAt H6 b W m C0 G0 ns0' t0 l0 := ⟨c0, c1, g0, by omega, hl, hn, ht, hlst, lb, tb⟩
  clear c0 c1 g0 g1 hl hn s6 ht hlst lb tb hb5
  repeat walk_at "s"
  refine ⟨b, L, _, rfl, rfl, hb6, by omega, by omega, fun k H7 k0 k1 hb7 s7 => ?_⟩
  have st7 := st6.hid s7
  clear st6 hb6 s7
  repeat walk_at "s"
  refine ⟨k, rfl, by omega, by omega, for_G (fun i' σ H' => ∃ C G ns t l x5 x7 x13 x14 x15 x16 x19, σ = [some (.ref a), some (.ref b), some (.int (0 + (i : Nat) * 1)), some (.int W), some (.ref t), x5, x6, x7, x8, x9, x10, x11, x12, x13, x14, x15, x16, x17, x18, x19, x20] ∧ Bag H' b L ∧ StAt H' b W m C G ns t l) ⟨C0, G0, ns0', t0, l0, _, _, _, _, _, _, _, rfl, hb7, st7⟩ (fun _ _ _ _ _ => trivial) ?_ ?_⟩
  · clear st7 hb7
    rintro i' x σ H8 H8' hi' ⟨C, G, ns, t, l, x5, x7, x13, x14, x15, x16, x19, rfl, hb8, st8⟩ ⟨rfl, rfl⟩
    repeat walk_at "s"
    refine i_gtup (.inl (.inl st8.ht)) rfl ?_
    repeat with_reducible refine i_gcons ?_
    with_reducible refine i_n13 ?_
    with_reducible refine i_gcons ?_
    with_reducible refine i_n14 ?_
    with_reducible refine i_gcons ?_
    with_reducible refine i_n15 ?_
    with_reducible refine i_gnil ?_
    with_reducible refine i_nx ?_
    with_reducible refine i_seqC (fun σ H' => ∃ bb p, σ = [some (.ref a), some (.ref b), some (.int (0 + (i : Nat) * 1)), some (.int W), some (.ref t), some (.int (0 + (i' : Nat) * 1)), x6, some (.ref p), x8, x9, x10, x11, x12, some (.int C), some (.int G), some (.ref l), x16, x17, x18, x19, x20] ∧ Bag H' b L ∧ StAt H' b W m C G ns t l ∧ Sk bb K H' p (vi ns)) ?_ ?_
    rotate_left
    · intro R hR
      repeat walk_at "s"
      refine ⟨b, L, _, rfl, rfl, hb8, by omega, by omega, fun d1 H9 _ _ hb9 s9 => ?_⟩
      have st9 := st8.hid s9
      repeat walk_at "s"
      refine i_if (fun _ => ?_) (fun _ => ?_)
      · repeat walk_at "s"
        refine i_tupleC (sk_lst st9.hs) fun p H10 hp ep s10 => ?_
        repeat walk_at "s"
        exact hR _ _ ⟨false, p, rfl, hb9.same s10, st9.same s10, .inl (.inl ep)⟩
      · repeat walk_at "s"
        refine i_listC (sk_lst st9.hs) fun p H10 hp ep s10 => ?_
        repeat walk_at "s"
        exact hR _ _ ⟨true, p, rfl, hb9.same s10, st9.same s10, sk_lst ep⟩
    clear hb8 st8
    rintro σ H8 ⟨bb, p, rfl, hb8, st8, skp⟩
    have hnat := small_ns wm st8.hn
    have hl30 : ns.length ≤ 30 := by have := st8.hl; omega
    have rok := stepF_ok wm st8.c0 st8.c1 st8.g0 st8.g1 st8.hl st8.hn
    generalize hr0 : stepF m (2 ^ W) C G ns = r at rok
    obtain ⟨C', G', ns'⟩ := r
    obtain ⟨r0, r1, r2, r3, r4, r5⟩ := rok
    repeat walk_at "s"
    refine ⟨0, _, _, _, _, rfl, rp_of (.int _), rp_of (.int _), rp_of (.int _), sk_ints skp, stCk_good wm st8.c0 st8.c1 st8.g0 st8.g1 st8.hl st8.hn ⟨C, G, ns, rfl, rfl, rfl, fun _ => ?_, fun z => absurd rfl z⟩⟩
    rw [hr0]
    intro t3 l3 H9 ht3 hl3 htl3 s9 et3 el3
    have st9 := st8.same s9
    repeat walk_at "s"
    refine ⟨W, m, C, G, l, ns, rfl, rfl, rfl, rfl, wm, st8.c0, st8.c1, st8.hl, .inl (.inl st9.hs), ?_⟩
    rw [hr0]
    intro t4 l4 H10 ht4 hl4 htl4 s10 et4 el4
    repeat walk_at "s"
    dsimp only [List.set]
    repeat walk_at "s"
    have s810 := s9.trans s10
    have st10 := st8.same s810
    have st4 : StAt H10 b W m C' G' ns' t4 l4 := ⟨r0, r1, r2, r3, r4, r5, et4, el4, (hb8.same s9).ne hl4, (hb8.same s9).ne ht4⟩
    refine like_same (st_rp (s10 _ _ et3) (s10 _ _ el3)) st4.rp (st4.show wm) ?_
    repeat walk_at "s"
    refine i_listC (sk_same s810 skp) fun p5 H11 hp5 ep5 s11 => ?_
    repeat walk_at "s"
    refine ne_same (sk_lst ep5) (sk_lst (st10.same s11).hs) hnat hl30 ?_
    repeat walk_at "s"
    have s911 := s10.trans s11
    refine i_ixS (b := false) (.inl (.inl (s911 _ _ et3))) at2 ?_
    repeat walk_at "s"
    refine i_setL (s911 _ _ el3) (ixN_ok (by decide) (by rw [vi_len]; have := r4; omega)) ?_
    have s811 := s810.trans s11
    have n4t : t4 ≠ l3 := by rintro rfl; rw [el3] at ht4; cases ht4
    have n4l : l4 ≠ l3 := by rintro rfl; rw [el3] at hl4; cases hl4
    obtain ⟨H12, e12, s812, st12⟩ : ∃ H12, upd H11 l3 (.lst ((vi ns').set (0 : Int).toNat (.int 99))) = H12 ∧ Same H8 H12 ∧ StAt H12 b W m C' G' ns' t4 l4 :=
      ⟨_, rfl, upd_at s811 hl3, ⟨r0, r1, r2, r3, r4, r5, by rw [upd_ne n4t]; exact s11 _ _ et4, by rw [upd_ne n4l]; exact s11 _ _ el4, st4.lb, st4.tb⟩⟩
    rw [e12]
    repeat walk_at "s"
    refine i_listC (sk_same s812 skp) fun p6 H13 hp6 ep6 s13 => ?_
    repeat walk_at "s"
    refine ne_same (sk_lst ep6) (sk_lst ((st8.same s812).same s13).hs) hnat hl30 ?_
    repeat walk_at "s"
    have s813 := s812.trans s13
    refine i_listC (sk_lst (st8.same s813).hs) fun p7 H14 hp7 ep7 s14 => ?_
    repeat walk_at "s"
    refine i_kS rfl rfl (i_S4 ?_)
    refine ⟨_, _, _, _, rp_of (.int _), rp_of (.int _), rp_of (.int _), sk_ints (b := true) (sk_lst ep7), stCk_good wm st8.c0 st8.c1 st8.g0 st8.g1 st8.hl st8.hn ⟨C, G, ns, rfl, rfl, rfl, ?_⟩⟩
    rw [hr0]
    intro t7 l7 H15 ht7 hl7 htl7 s15 et7 el7
    repeat walk_at "s"
    have s1215 := (s13.trans s14).trans s15
    have st15 := st12.same s1215
    refine like_same (st_rp et7 el7) st15.rp (st15.show wm) ?_
    repeat walk_at "s"
    exact ⟨C', G', ns', t4, l4, _, _, _, _, _, _, _, rfl, ((hb8.same s812).same s1215), st15⟩
  · clear st7 hb7
    rintro σ H8 ⟨C, G, ns, t, l, x5, x7, x13, x14, x15, x16, x19, rfl, hb8, st8⟩
    have hnat := small_ns wm st8.hn
    have hl30 : ns.length ≤ 30 := by have := st8.hl; omega
    have blen := stateBits_len (C := C) (G := G) wm st8.hl
    have bbd := stateBits_bd (W := W) (C := C) (G := G) (ns := ns)
    have there := state_there wm st8.c0 st8.c1 st8.g0 st8.g1 st8.hl st8.hn
    generalize hbits : stateBits W C G ns = bits at blen bbd there
    have bnat := small_bits bbd
    have b30 : bits.length ≤ 30 := by omega
    repeat walk_at "s"
    refine ⟨W, m, C, G, t, l, ns, rfl, rfl, wm, st8.hl, st8.ht, .inl (.inl st8.hs), ?_⟩
    rw [hbits]
    intro pb H9 hpb epb s9
    have npb : pb ≠ b := hb8.ne hpb
    have st9 := st8.same s9
    repeat walk_at "s"
    refine i_ixS (b := false) (.inl (.inl st9.ht)) at2 ?_
    repeat walk_at "s"
    refine i_listC (sk_lst st9.hs) fun pg H10 hpg epg s10 => ?_
    have st10 := st9.same s10
    repeat walk_at "s"
    refine i_ixS (b := false) (.inl (.inl st10.ht)) at0 ?_
    repeat walk_at "s"
    refine i_ixS (b := false) (.inl (.inl st10.ht)) at1 ?_
    repeat walk_at "s"
    refine ⟨_, _, _, _, rp_of (.int _), rp_of (.int _), rp_of (.int _), sk_ints (b := true) (sk_lst epg), stCk_good wm st8.c0 st8.c1 st8.g0 st8.g1 st8.hl st8.hn ⟨C, G, ns, rfl, rfl, rfl, ?_⟩⟩
    rw [hbits]
    intro p11 H11 hp11 e11 s11
    have st11 := st10.same s11
    have epb11 := (s10.trans s11) _ _ epb
    repeat walk_at "s"
    refine like_same (li_rp e11) (li_rp epb11) (bits_show bbd b30) ?_
    repeat walk_at "s"
    refine i_ixS (b := false) (.inl (.inl st11.ht)) at2 ?_
    refine ne_same (sk_lst (s11 _ _ epg)) (sk_lst st11.hs) hnat hl30 ?_
    repeat walk_at "s"
    refine i_listC (sk_lst epb11) fun p12 H12 hp12 e12 s12 => ?_
    have st12 := st11.same s12
    repeat walk_at "s"
    refine ⟨_, _, rp_of (.int _), sk_ints (b := true) (sk_lst e12), btCk_good wm blen bbd ⟨bits, rfl, ?_⟩⟩
    rw [there]
    intro t13 l13 H13 ht13 hl13 htl13 s13 et13 el13
    have st13 := st12.same s13
    repeat walk_at "s"
    refine like_same (st_rp et13 el13) st13.rp (st13.show wm) ?_
    repeat walk_at "s"
    have epb13 := (s12.trans s13) _ _ epb11
    refine i_tupleC (.inl (.inl epb13)) fun p14 H14 hp14 e14 s14 => ?_
    have st14 := st13.same s14
    repeat walk_at "s"
    refine ⟨_, _, rp_of (.int _), sk_ints (b := false) (.inl (.inl e14)), btCk_good wm blen bbd ⟨bits, rfl, ?_⟩⟩
    rw [there]
    intro t15 l15 H15 ht15 hl15 htl15 s15 et15 el15
    have st15 := st14.same s15
    repeat walk_at "s"
    refine like_same (st_rp et15 el15) st15.rp (st15.show wm) ?_
    repeat walk_at "s"
    have epb15 := (s14.trans s15) _ _ epb13
    have hb15 := ((((((hb8.same s9).same s10).same s11).same s12).same s13).same s14).same s15
    refine ⟨b, L, W, m, C, G, ns, t, l, rfl, rfl, rfl, wm, hb15, st8.c0, st8.c1, st8.g0, st8.g1, st8.hl, st8.hn, st15.ht, st15.hs, st8.lb, st8.tb, fun r H16 y0 y1 y2 y3 u dw dc dh ds hr0 hb16 s16 er k0 k1 k2 k3 sck => ?_⟩
    have epb16 := hid_get s16 epb15 npb
    clear st8 st9 st10 st11 st12 st13 st14 st15 hb15 epb15 epb13 epb11 epb hb8 there
    refine i_gtup (.inl (.inl er)) rfl ?_
    repeat walk_at "s"
    have sh3 := k3.2.show (by decide) (by decide)
    refine i_repr k3.1 sh3.sh sh3.dp sh3.ln ?_
    repeat walk_at "s"
    refine ⟨2, rfl, by decide, by decide, for_G (fun i2 σ H' => (∃ x5 x7 x9 x19, σ = [some (.ref a), some (.ref b), some (.int (0 + (i : Nat) * 1)), some (.int W), some (.ref t), x5, some (.ref pb), x7, some (.str ds.shown), x9, x10, x11, some y0, some y1, some y2, some y3, some u, x17, x18, x19, x20]) ∧ Same H16 H') ⟨⟨_, _, _, _, rfl⟩, .refl _⟩ (fun _ _ _ _ _ => trivial) ?_ ?_⟩
    · rintro i2 x σ H17 H17' hi2 ⟨⟨x5, x7, x9, x19, rfl⟩, s17⟩ ⟨rfl, rfl⟩
      repeat walk_at "s"
      have fin : ∀ t H', Same H16 H' → ∀ (d : PyData), Rp K H' (.ref t) d → Rp K H' u d → ShowOk d → True := fun _ _ _ _ _ _ _ => trivial
      refine ⟨_, dw, dc, dh, ds, rfl, rp_of (dp_same s17 _ _ k0.1), rp_of (dp_same s17 _ _ k1.1), rp_of (dp_same s17 _ _ k2.1), rp_same s17 k3.1, sck.imp (fun v dn => ?_) (fun e dn => ?_) fun _ _ _ _ _ _ _ _ _ _ z => z.elim⟩
      · intro t18 H18 ht18 s18 et18
        obtain ⟨t0', dv, rfl, et0, kv⟩ := dn
        have s1618 := s17.trans s18
        repeat walk_at "s"
        refine like_same (pair_rp et18 (dp_same s1618 _ _ kv.1)) (pair_rp (s1618 _ _ et0) (dp_same s1618 _ _ kv.1)) (pair_show sm_name.1 kv.2 (dp_noDict _ _ kv.1)) ?_
        repeat walk_at "s"
        refine i_repr (rp_same s1618 k3.1) sh3.sh sh3.dp sh3.ln ?_
        repeat walk_at "s"
        refine i_ifn (fun z => absurd rfl z) (fun _ => ?_)
        repeat walk_at "s"
        exact ⟨⟨_, _, _, _, rfl⟩, s1618⟩
      · intro t18 H18 ht18 s18 et18
        obtain ⟨t0', rfl, et0, ke⟩ := dn
        have s1618 := s17.trans s18
        repeat walk_at "s"
        refine like_same (pair_rp et18 (.int e)) (pair_rp (s1618 _ _ et0) (.int e)) (pair_show sm_name.2.1 ((Sm.int ke).mono (by decide) (by decide)) (by simp [PyData.hasDict])) ?_
        repeat walk_at "s"
        refine i_repr (rp_same s1618 k3.1) sh3.sh sh3.dp sh3.ln ?_
        repeat walk_at "s"
        refine i_ifn (fun z => absurd rfl z) (fun _ => ?_)
        repeat walk_at "s"
        exact ⟨⟨_, _, _, _, rfl⟩, s1618⟩
    rintro σ H17 ⟨⟨x5, x7, x9, x19, rfl⟩, s17⟩
    have hb17 := hb16.same s17
    have epb17 := s17 _ _ epb16
    clear k0 k1 k2 k3 sck sh3 er
    repeat walk_at "s"
    refine ⟨b, L, manyB W m, bits, pb, rfl, rfl, hb17, epb17, npb, blen, wmany.1, wmany.2, bbd, fun r2 H18 v e d hr2 hb18 s18 er2 kv ke bad => ?_⟩
    have epb18 := hid_get s18 epb17 npb
    refine i_gtup (.inl (.inl er2)) rfl ?_
    repeat walk_at "s"
    refine ⟨_, d, rp_of (.int _), rp_same (hid_refl b H18) kv.1, btCk_bad wm bad ?_⟩
    intro t19 H19 ht19 s19 et19
    repeat walk_at "s"
    refine i_newT fun t20 H20 ht20 et20 s20 => ?_
    repeat walk_at "s"
    refine like_same (pair_rp (s20 _ _ et19) (.int e)) (pair_rp et20 (.int e)) (pair_show sm_name.2.2 ((Sm.int (by omega)).mono (by decide) (by decide)) (by simp [PyData.hasDict])) ?_
    repeat walk_at "s"
    refine i_newL fun p21 H21 hp21 e21 s21 => ?_
    have hb21 := ((hb18.same s19).same s20).same s21
    repeat walk_at "s"
    have all : ∀ v ∈ [V.int 2, .int 5, .bl true, .non, .str "4", .int 0, .int (-4)], Pk K (Hid b H21) 3 4 v := by
      intro v hv
      simp only [List.mem_cons, List.not_mem_nil, or_false] at hv
      rcases hv with rfl | rfl | rfl | rfl | rfl | rfl | rfl
      · exact pk_int (by omega) (by decide)
      · exact pk_int (by omega) (by decide)
      · exact pk_bl
      · exact pk_non
      · exact pk_str sm_str1.2.2.2.2
      · exact pk_int (by omega) (by decide)
      · exact pk_int (by omega) (by decide)
    refine ⟨b, L, p21, _, rfl, rfl, hb21, e21, ((hb18.same s19).same s20).ne hp21, by simp, by simp, fun i3 vo H22 hvo hb22 s22 => ?_⟩
    obtain ⟨dvo, lfo, bado⟩ := mem_all all hvo
    have lf22 := lfo.same (hid_up s22)
    have kv22 : OkV K (Hid b H22) v d := kv.same ((hid_same ((s19.trans s20).trans s21)).trans (hid_up s22))
    have epb22 := hid_get s22 (((s19.trans s20).trans s21) _ _ epb18) npb
    repeat walk_at "s"
    refine i_newL fun p23 H23 hp23 e23 s23 => ?_
    have hb23 := hb22.same s23
    repeat walk_at "s"
    have all2 : ∀ v' ∈ [v, V.ref pb], ∃ d', Rp K (Hid b H23) v' d' := by
      intro v' hv
      simp only [List.mem_cons, List.not_mem_nil, or_false] at hv
      rcases hv with rfl | rfl
      · exact ⟨d, (kv22.same (hid_same s23)).1⟩
      · exact ⟨_, li_rp (to_hid (s23 _ _ epb22) npb)⟩
    refine ⟨b, L, p23, _, rfl, rfl, hb23, e23, hb22.ne hp23, by simp, by simp, fun i4 vr H24 hvr hb24 s24 => ?_⟩
    obtain ⟨dr, rpr⟩ := mem_all all2 hvr
    have lf24 : Leaf K H24 vo dvo := (lf22.same ((hid_same s23).trans (hid_up s24))).same (hid_refl b H24)
    have epb24 := hid_get s24 (s23 _ _ epb22) npb
    repeat walk_at "s"
    refine ⟨dvo, dr, rp_of lf24.1, rp_same s24 rpr, .inl ⟨bado, ?_⟩⟩
    intro t25 H25 ht25 s25 et25
    repeat walk_at "s"
    refine i_newT fun t26 H26 ht26 et26 s26 => ?_
    repeat walk_at "s"
    have lf26 := lf24.same (s25.trans s26)
    refine like_same (pair_rp (s26 _ _ et25) lf26.1) (pair_rp et26 lf26.1) (pair_show sm_name.1 lf26.ok.2 (dp_noDict _ _ lf26.1)) ?_
    repeat walk_at "s"
    have hb26 := (hb24.same s25).same s26
    clear lf26 lf24 rpr all2 all lf22 kv22 kv lfo
    refine ⟨W, m, rfl, wm, ?_⟩
    repeat walk_at "s"
    refine ⟨_, rfl, by omega, by omega, fun D hD => ?_⟩
    have hDb : D ≠ b := hb26.ne hD
    have hDL : D ≠ L := hb26.neL hD
    refine lc_G (fun i H' => Bag H' b L ∧ Same (Hid b H26) H' ∧ ∃ ws : List Int, H' D = some (.lst (vi ws)) ∧ ws.length = i ∧ ∀ n ∈ ws, 0 ≤ n ∧ n ≤ 1) ⟨hb26.same (upd_new hD), hid_then (hid_refl _ _) (upd_new hD), [], upd_same, rfl, by simp⟩ (fun _ _ _ _ => trivial) ?_ ?_
    · rintro i5 x H6 H7 hi5 ⟨hb6, s6, ws, eD, hl6, hw6⟩ ⟨rfl, rfl⟩
      dsimp only [wipe, List.map, List.set]
      repeat walk_at "s"
      refine ⟨rfl, ?_⟩
      repeat walk_at "s"
      refine ⟨b, L, _, rfl, rfl, hb6, by omega, by omega, fun d H8 d0 d1 hb8 s8 => ?_⟩
      have eD8 := hid_get s8 eD hDb
      refine ⟨vi ws, eD8, by rw [vi_len]; exact Nat.lt_of_lt_of_le (show ws.length < 100 by omega) (sz (by omega)), hb8.upd hDb hDL, ?_, ws ++ [d], ?_, by rw [List.length_append, hl6]; rfl, ?_⟩
      · exact fun a u e => by
          rw [upd_ne (by rintro rfl; rw [of_hid e] at hD; cases hD)]
          exact (hid_trans s6 s8) a u e
      · rw [upd_same]
        simp [vi]
      · intro n hn
        rcases List.mem_append.mp hn with hn | hn
        · exact hw6 n hn
        · obtain rfl : n = d := by simpa using hn
          omega
    rintro H27 ⟨hb27, s27, ws, eD, hlw, hw⟩
    have hlw : ws.length = manyB W m := by omega
    obtain ⟨back, q0, q1, q2, q3, q4, q5⟩ := state_back wm hlw hw
    have wnat := small_bits hw
    have w30 : ws.length ≤ 30 := by omega
    generalize hr : stateF W m ws = r at back q0 q1 q2 q3 q4 q5
    repeat walk_at "s"
    refine ⟨_, _, rp_of (.int _), sk_ints (b := true) (sk_lst eD), btCk_good wm hlw hw ⟨ws, rfl, ?_⟩⟩
    rw [hr]
    intro t28 l28 H28 ht28 hl28 htl28 s28 et28 el28
    repeat walk_at "s"
    refine i_ixS (b := false) (.inl (.inl et28)) at0 ?_
    repeat walk_at "s"
    refine ⟨_, _, rp_of (.int _), sk_ints (b := true) (sk_lst (s28 _ _ eD)), btCk_good wm hlw hw ⟨ws, rfl, ?_⟩⟩
    rw [hr]
    intro t29 l29 H29 ht29 hl29 htl29 s29 et29 el29
    repeat walk_at "s"
    refine i_ixS (b := false) (.inl (.inl et29)) at1 ?_
    repeat walk_at "s"
    refine ⟨_, _, rp_of (.int _), sk_ints (b := true) (sk_lst ((s28.trans s29) _ _ eD)), btCk_good wm hlw hw ⟨ws, rfl, ?_⟩⟩
    rw [hr]
    intro t30 l30 H30 ht30 hl30 htl30 s30 et30 el30
    repeat walk_at "s"
    refine i_ixS (b := false) (.inl (.inl et30)) at2 ?_
    repeat walk_at "s"
    refine ⟨_, _, _, _, rp_of (.int _), rp_of (.int _), rp_of (.int _), sk_ints (b := true) (sk_lst el30), stCk_good wm q0 q1 q2 q3 q4 q5 ⟨r.1, r.2.1, r.2.2, rfl, rfl, rfl, ?_⟩⟩
    rw [back]
    intro p31 H31 hp31 e31 s31
    have s2731 := ((s28.trans s29).trans s30).trans s31
    repeat walk_at "s"
    refine like_same (li_rp e31) (li_rp (s2731 _ _ eD)) (bits_show hw w30) ?_
    repeat walk_at "s"
    exact ⟨⟨_, _, _, _, _, _, _, _, _, _, _, _, _, _, _, _, _, _, _, rfl⟩, hb27.same s2731⟩
end
end T

set_option Elab.async false
set_option linter.all false
set_option maxRecDepth 100000
set_option maxHeartbeats 4000000
/-! k62, part N: all together. -/
namespace T
open PySem PySem.Spec PyProof.Rows L2 VI VC VG VD VE VF VH VL VM
theorem walk_GK {l : PySem.W.OpenLaw} {n k : Nat} {q : Program} {loose : List Str} {XP : (Str → Option Value) → Heap → Prop} {YP : World → Heap → Prop} {d : DefRec} {K : Params → PySem.W.Frag} {sp : PySem.W.Frag → Sp} {x : Str}
    (hn : l.most = some n) (hn2 : n ≤ sizeLine) (hdf : d.params.defaults = []) (hr : Room k callerA) (hY : ∀ (w : World) (h : Heap), YP w h → (K w.params).In h)
    (F : ∀ (w : World) (mg : Str → Option Value) (h : Heap), (K w.params).In h → h.Ns mainGlobals mg → ∀ base : Heap, (K w.params).In base → base.Ns mainGlobals mg → ClG l.prog w (K w.params) mg base k d.name [x] (sp (K w.params)))
    (hsp : ∀ (w : World) (H : Hp) (a : Addr) (ns : List Int), ns.length ≤ n → Only H → SqL (K w.params) H a (ns.map V.int) → sp (K w.params) [.ref a] H (fun v _ => v = .bl true) fun _ _ _ => False) :
    PySem.W.WalkO q loose XP YP l.row.toRowW d [] (fun f vs => PySem.call f vs) := VD.walk_G (sp := fun w => sp (K w.params)) hn hn2 hdf hr hY F hsp
/-- one field more than the code -/
theorem sto_one {st : Stmt} {sts : List Stmt} {fd : FuncData} {x f y : Str} {p1 p2 p3 p4 q1 q2 q3 q4 : Pos} {k : Nat} (e : sts = [.Assign [.Attribute (.Name "self" p1) "code" p2] (.Constant (.str x) k p3) p4, .Assign [.Attribute (.Name "self" q1) f q2] (.Name y q3) q4])
    (hb : ∀ (s : Shared) (a : Addr) (u : Value), BindsTo s fd ⟨[.ref a, u], []⟩ [("self", .ref a), (y, u)]) (hs : (defScope st).names.lookup ("self" : Str) = some .local) (hy : (defScope st).names.lookup y = some .local) (hd : (y == ("__debug__" : Str)) = false) (hn : (("self" : Str) == y) = false) (hn2 : (y == y) = true) : VX.StoTx st sts fd 1 (fsOf x [f]) := by
  refine ⟨fun s a vs us r hl => ?_⟩
  match vs, hl with
  | [v], _ =>
    cases r with
    | cons rv rr =>
      cases rr
      rename_i u
      subst e
      refine ⟨_, "code", .str x, [(f, v)], hb s a u, ?_, ?_, .txt (.par hy hd ?_ rv .nil), by simp, by simp [fsOf]⟩
      · intro z hz
        simp only [List.mem_cons, List.not_mem_nil, or_false] at hz
        rcases hz with rfl | rfl
        · exact hs
        · exact hy
      · simp [List.lookup, hn]
      · simp [List.lookup, hn2]
theorem excC_mk {P : Program} {K : PySem.W.Frag} {h : Heap} {mg : Str → Option Value} {x : Str} {flds : List Str} {C fI : Addr} {B newId initId : String} {bmB : List Value} {qual : Str} {st : Stmt} {sts : List Stmt} {fd : FuncData} (X : K.In h) (G : h.Ns mainGlobals mg) (a : PySem.W.nsIn K mainGlobals x = some (some (.ref C)))
    (own : VX.OwnX P K C fI B newId initId bmB qual st sts fd) (sto : VX.StoTx st sts fd flds.length (fsOf x flds)) (kC : PySem.W.keepIn K (.ref C) = true) (nS : PySem.W.nsIn K mainGlobals "super" = some none) (exC : PySem.W.subIn K (.ref C) (.type "BaseException") = some true) (tyC : PySem.W.typeIn K (.ref C) = some (.type "type"))
    (no : ∀ f ∈ flds, PySem.W.findIn K (.ref C) f = some none) (noc : PySem.W.findIn K (.ref C) "code" = some none) (xf : XfC K C) : ExcC P K mg x flds C :=
  ⟨⟨fI, B, newId, initId, bmB, qual, st, sts, fd, VX.RaiseX.mk own sto (PySem.W.mg_of X G a) kC (PySem.W.mg_none_of X G nS) exC tyC (fun vs hl p hp => by
    unfold fsOf at hp
    rcases List.mem_append.mp hp with hp | hp
    · exact no _ (List.of_mem_zip (List.mem_reverse.mp hp)).1
    · obtain rfl : p = _ := by simpa using hp
      exact noc)⟩, PySem.W.mg_of X G a, xf, no⟩
theorem own_mk {P : Program} {K : PySem.W.Frag} {C fI cc cda : Addr} {qual : Str} {st : Stmt} {oc doc pm ct ccl : Value} {od an cdd cld : Option Addr} {osl ccs csl : Array (Option Value)} {vs : Array Value} {file : Str} {tf : Tok} {cl : Value}
    (ov : PySem.W.excOver K C [.type "ValueError", .type "Exception", .type "BaseException", .type "object"] = true) (hd : PySem.W.hasDictIn K C = true) (sa : PySem.W.findIn K (.ref C) "__setattr__" = some (some (.builtin "object.__setattr__"))) (ini : PySem.W.excInitIn K C [.type "ValueError", .type "Exception", .type "BaseException", .type "object"] "ValueError.__new__" = true)
    (iC : PySem.W.findIn K (.ref C) "__init__" = some (some (.ref fI))) (tI : PySem.W.typeIn K (.ref fI) = some (.type "function"))
    (l : K.lookup fI = some ⟨oc, od, .func (PySem.W.ksFn "__init__" qual (defArgs st) (defBody st) (defScope st) .none .none doc pm an (.ref cda) ct cc), osl⟩) (hc : PySem.W.codeIn K (.ref cda) qual = true) (lc : K.lookup cda = some ⟨ccl, cdd, .fields vs, ccs⟩) (v2 : vs[2]? = some (.str file tf)) (hf : (P.main.file == file) = true)
    (ll : K.lookup cc = some ⟨cl, cld, .cell (some (.ref C)), csl⟩) (tx : VX.SupTxt (defBody st) ((defBody st).drop 1)) (kd : (defScope st).kind = .function ∧ (defScope st).isCoroutine = false ∧ (defScope st).isGenerator = false) (nc : ∀ x ∈ (defScope st).names, x.2 ≠ .cell) (sn : (defScope st).names.lookup ("super" : Str) = some .globalImplicit)
    (fn2 : (defScope st).names.lookup ("__class__" : Str) = some .free) (sl : (defScope st).names.lookup ("self" : Str) = some .local) (ar : ∃ a : Arg, ((defArgs st).posonlyargs ++ (defArgs st).args).head? = some a ∧ a.arg = "self") (sup : PySem.W.ks_superIn K C C "__init__" = some (some (.builtin "ValueError.__init__"))) (subB : PySem.W.subIn K (.ref C) (.type "ValueError") = some true)
    (subO : PySem.W.mroIn K C (.ref C) = some true) (top : (P.main.scope.names.lookup ("super" : Str)).isSome = false) (stat : PySem.W.nsIn K cStatics "thirdparty.any" = some none) :
    VX.OwnX P K C fI "ValueError" "ValueError.__new__" "ValueError.__init__" [.type "ValueError", .type "Exception", .type "BaseException", .type "object"] qual st ((defBody st).drop 1) (PySem.W.ksFn "__init__" qual (defArgs st) (defBody st) (defScope st) .none .none doc pm an (.ref cda) ct cc) where
  c0 := ⟨PySem.F.store_ValueError, ov, by
    unfold PySem.W.hasDictIn at hd
    cases e : PySem.W.clsIn K C with
    | none => rw [e] at hd; cases hd
    | some cd => rw [e] at hd; exact ⟨cd, rfl, hd⟩, sa⟩
  eb := PySem.F.excBase_ValueError
  kx := PySem.W.kxs_ValueError
  ini := ini
  iC := iC
  tI := tI
  fn := ⟨_, _, _, _, _, _, _, _, _, _, _, _, _, _, _, _, _, _, rfl, l, hc, lc, v2, hf, ll⟩
  tx := tx
  kd := kd
  nc := nc
  sn := sn
  fn2 := fn2
  sl := sl
  ar := ar
  sup := sup
  subB := subB
  subO := subO
  top := top
  stat := stat
theorem all_mk {P : Program} {w : World} {K : PySem.W.Frag} {mg : Str → Option Value} {base : Heap} {C_InvalidNumber C_BadBits C_BadWords : Addr} {t_MOST_WIDTH : Tok}
    (nb : Nb mg)
    (D_any_number : DefAt K mg "any_number" st_any_number)
    (D_is_number : DefAt K mg "is_number" st_is_number)
    (D_is_bit : DefAt K mg "is_bit" st_is_bit)
    (D_is_row : DefAt K mg "is_row" st_is_row)
    (D_check_bits : DefAt K mg "check_bits" st_check_bits)
    (D_bits_of : DefAt K mg "bits_of" st_bits_of)
    (D_words_of : DefAt K mg "words_of" st_words_of)
    (D_low_bits : DefAt K mg "_low_bits" st_low_bits)
    (D_number_of : DefAt K mg "_number_of" st_number_of)
    (D_check_each_bit : DefAt K mg "_check_each_bit" st_check_each_bit)
    (D_check_width : DefAt K mg "_check_width" st_check_width)
    (D_check_state : DefAt K mg "_check_state" st_check_state)
    (D_many_bits : DefAt K mg "_many_bits" st_many_bits)
    (D_plain_step : DefAt K mg "plain_step" st_plain_step)
    (D_state_bits : DefAt K mg "state_bits" st_state_bits)
    (D_state_of : DefAt K mg "state_of" st_state_of)
    (D_law_start : DefAt K mg "_law_start" st_law_start)
    (D_law_draw : DefAt K mg "_law_draw" st_law_draw)
    (D_law_pick : DefAt K mg "_law_pick" st_law_pick)
    (D_law_like : DefAt K mg "_law_like" st_law_like)
    (D_law_word_bits : DefAt K mg "_law_word_bits" st_law_word_bits)
    (D_law_words_bits : DefAt K mg "_law_words_bits" st_law_words_bits)
    (D_law_step : DefAt K mg "_law_step" st_law_step)
    (D_law_state : DefAt K mg "_law_state" st_law_state)
    (D_law_state_bits : DefAt K mg "_law_state_bits" st_law_state_bits)
    (D_law_many_bits : DefAt K mg "_law_many_bits" st_law_many_bits)
    (D_law_told : DefAt K mg "_law_told" st_law_told)
    (D_law_read : DefAt K mg "_law_read" st_law_read)
    (D_law_bent : DefAt K mg "_law_bent" st_law_bent)
    (D_law_bent_bits : DefAt K mg "_law_bent_bits" st_law_bent_bits)
    (D_law : DefAt K mg "law" st_law)
    (R_InvalidNumber : ExcC P K mg "InvalidNumber" ["value"] C_InvalidNumber) (R_BadBits : ExcC P K mg "BadBits" ["at"] C_BadBits) (R_BadWords : ExcC P K mg "BadWords" ["at"] C_BadWords)
    (c_MOST_WIDTH : mg "MOST_WIDTH" = some (.int 8 t_MOST_WIDTH))
    (X_ii : PySem.W.exmOne K (.ref C_InvalidNumber) (.ref C_InvalidNumber) = some true) (X_wi : PySem.W.exmOne K (.ref C_BadWords) (.ref C_InvalidNumber) = some false) (X_ww : PySem.W.exmOne K (.ref C_BadWords) (.ref C_BadWords) = some true)
    (X_bi : PySem.W.exmOne K (.ref C_BadBits) (.ref C_InvalidNumber) = some false) (X_bb : PySem.W.exmOne K (.ref C_BadBits) (.ref C_BadBits) = some true) :
    ClG P w K mg base 24 "law" ["_law_script"] (sp_law K) := by
  have C_any_number := cl_any_number (P := P) (w := w) (K := K) (mg := mg) (base := base) nb D_any_number
  have C_is_row := cl_is_row (P := P) (w := w) (K := K) (mg := mg) (base := base) nb D_is_row
  have C_low_bits := cl_low_bits (P := P) (w := w) (K := K) (mg := mg) (base := base) nb D_low_bits
  have C_number_of := cl_number_of (P := P) (w := w) (K := K) (mg := mg) (base := base) nb D_number_of
  have C_many_bits := cl_many_bits (P := P) (w := w) (K := K) (mg := mg) (base := base) nb D_many_bits
  have C_law_start := cl_law_start (P := P) (w := w) (K := K) (mg := mg) (base := base) nb D_law_start
  have C_law_draw := cl_law_draw (P := P) (w := w) (K := K) (mg := mg) (base := base) nb D_law_draw
  have C_law_like := cl_law_like (P := P) (w := w) (K := K) (mg := mg) (base := base) nb D_law_like
  have C_law_word_bits := cl_law_word_bits (P := P) (w := w) (K := K) (mg := mg) (base := base) nb D_law_word_bits
  have C_law_step := cl_law_step (P := P) (w := w) (K := K) (mg := mg) (base := base) nb D_law_step
  have C_law_many_bits := cl_law_many_bits (P := P) (w := w) (K := K) (mg := mg) (base := base) nb D_law_many_bits
  have C_is_number := cl_is_number (P := P) (w := w) (K := K) (mg := mg) (base := base) nb D_is_number C_any_number
  have C_law_pick := cl_law_pick (P := P) (w := w) (K := K) (mg := mg) (base := base) nb D_law_pick C_law_draw
  have C_law_words_bits := cl_law_words_bits (P := P) (w := w) (K := K) (mg := mg) (base := base) nb D_law_words_bits C_law_word_bits
  have C_is_bit := cl_is_bit (P := P) (w := w) (K := K) (mg := mg) (base := base) nb D_is_bit C_is_number
  have C_bits_of := cl_bits_of (P := P) (w := w) (K := K) (mg := mg) (base := base) nb D_bits_of C_is_number C_low_bits R_BadWords R_InvalidNumber c_MOST_WIDTH
  have C_check_width := cl_check_width (P := P) (w := w) (K := K) (mg := mg) (base := base) nb D_check_width C_is_number R_InvalidNumber
  have C_law_state := cl_law_state (P := P) (w := w) (K := K) (mg := mg) (base := base) nb D_law_state C_law_draw C_law_pick
  have C_law_state_bits := cl_law_state_bits (P := P) (w := w) (K := K) (mg := mg) (base := base) nb D_law_state_bits C_law_word_bits C_law_words_bits
  have C_law_bent := cl_law_bent (P := P) (w := w) (K := K) (mg := mg) (base := base) nb D_law_bent C_law_draw C_law_pick
  have C_law_bent_bits := cl_law_bent_bits (P := P) (w := w) (K := K) (mg := mg) (base := base) nb D_law_bent_bits C_law_draw C_law_pick
  have C_check_bits := cl_check_bits (P := P) (w := w) (K := K) (mg := mg) (base := base) nb D_check_bits C_is_bit C_is_row R_BadBits
  have C_check_each_bit := cl_check_each_bit (P := P) (w := w) (K := K) (mg := mg) (base := base) nb D_check_each_bit C_is_bit R_BadBits
  have C_check_state := cl_check_state (P := P) (w := w) (K := K) (mg := mg) (base := base) nb D_check_state C_is_number C_check_width R_BadWords R_InvalidNumber
  have C_words_of := cl_words_of (P := P) (w := w) (K := K) (mg := mg) (base := base) nb D_words_of C_is_number C_number_of C_check_each_bit R_BadBits R_InvalidNumber c_MOST_WIDTH
  have C_plain_step := cl_plain_step (P := P) (w := w) (K := K) (mg := mg) (base := base) nb D_plain_step C_check_state
  have C_state_bits := cl_state_bits (P := P) (w := w) (K := K) (mg := mg) (base := base) nb D_state_bits C_bits_of C_check_state
  have C_state_of := cl_state_of (P := P) (w := w) (K := K) (mg := mg) (base := base) nb D_state_of C_check_bits C_words_of C_check_width C_many_bits
  have C_law_told := cl_law_told (P := P) (w := w) (K := K) (mg := mg) (base := base) nb D_law_told C_plain_step C_state_bits R_BadWords R_InvalidNumber X_ii X_wi X_ww
  have C_law_read := cl_law_read (P := P) (w := w) (K := K) (mg := mg) (base := base) nb D_law_read C_state_of R_BadBits R_InvalidNumber X_ii X_bi X_bb
  have C_law := cl_law (P := P) (w := w) (K := K) (mg := mg) (base := base) nb D_law C_plain_step C_state_bits C_state_of C_law_start C_law_draw C_law_pick C_law_like C_law_step C_law_state C_law_state_bits C_law_many_bits C_law_told C_law_read C_law_bent C_law_bent_bits
  exact C_law
end T

open PySem PySem.W PyProof.Rows
set_option Elab.async false
set_option maxRecDepth 100000 in
set_option maxHeartbeats 0 in
theorem PySem.Challenge.cw_veiledgates_k62_whole_plain_machines_holds : PySem.Challenge.rw_veiledgates_k62_whole_plain_machines.Holds := by
  w_on; o_law; k_head; (case hw => w_witness2)
  k_fill
  refine T.walk_GK (k := 24) (x := "_law_script") (sp := T.sp_law) rfl ?hn2 rfl ?hr (fun w h Y => PySem.W.kIn_of Y) ?F ?S
  case hn2 => decide
  case hr => exact ⟨rfl, by decide, by decide⟩
  case S =>
    intro w H a ns hl hO hS
    exact ⟨_, rfl, a, ns, rfl, hS, fun _ => rfl⟩
  case F =>
    intro w mg h KX G base _ _
    refine' T.all_mk ?nb
      ?D_any_number ?D_is_number ?D_is_bit ?D_is_row ?D_check_bits ?D_bits_of ?D_words_of ?D_low_bits ?D_number_of ?D_check_each_bit ?D_check_width ?D_check_state ?D_many_bits ?D_plain_step ?D_state_bits ?D_state_of ?D_law_start ?D_law_draw ?D_law_pick ?D_law_like ?D_law_word_bits ?D_law_words_bits ?D_law_step ?D_law_state ?D_law_state_bits ?D_law_many_bits ?D_law_told ?D_law_read ?D_law_bent ?D_law_bent_bits ?D_law
      ?R_InvalidNumber ?R_BadBits ?R_BadWords ?c_MOST_WIDTH ?X_ii ?X_wi ?X_ww ?X_bi ?X_bb
    (case nb => exact ⟨PySem.W.mg_none_of KX G (by k_is), PySem.W.mg_none_of KX G (by k_is), PySem.W.mg_none_of KX G (by k_is), PySem.W.mg_none_of KX G (by k_is), PySem.W.mg_none_of KX G (by k_is), PySem.W.mg_none_of KX G (by k_is), PySem.W.mg_none_of KX G (by k_is), PySem.W.mg_none_of KX G (by k_is), PySem.W.mg_none_of KX G (by k_is), PySem.W.mg_none_of KX G (by k_is), PySem.W.mg_none_of KX G (by k_is), PySem.W.mg_none_of KX G (by k_is)⟩)
    (case D_any_number => (refine' VF.defAt KX G ?a ?l ?c ?k; (case a => k_is); (case l => k_is); (case c => k_is); (case k => k_is)))
    (case D_is_number => (refine' VF.defAt KX G ?a ?l ?c ?k; (case a => k_is); (case l => k_is); (case c => k_is); (case k => k_is)))
    (case D_is_bit => (refine' VF.defAt KX G ?a ?l ?c ?k; (case a => k_is); (case l => k_is); (case c => k_is); (case k => k_is)))
    (case D_is_row => (refine' VF.defAt KX G ?a ?l ?c ?k; (case a => k_is); (case l => k_is); (case c => k_is); (case k => k_is)))
    (case D_check_bits => (refine' VF.defAt KX G ?a ?l ?c ?k; (case a => k_is); (case l => k_is); (case c => k_is); (case k => k_is)))
    (case D_bits_of => (refine' VF.defAt KX G ?a ?l ?c ?k; (case a => k_is); (case l => k_is); (case c => k_is); (case k => k_is)))
    (case D_words_of => (refine' VF.defAt KX G ?a ?l ?c ?k; (case a => k_is); (case l => k_is); (case c => k_is); (case k => k_is)))
    (case D_low_bits => (refine' VF.defAt KX G ?a ?l ?c ?k; (case a => k_is); (case l => k_is); (case c => k_is); (case k => k_is)))
    (case D_number_of => (refine' VF.defAt KX G ?a ?l ?c ?k; (case a => k_is); (case l => k_is); (case c => k_is); (case k => k_is)))
    (case D_check_each_bit => (refine' VF.defAt KX G ?a ?l ?c ?k; (case a => k_is); (case l => k_is); (case c => k_is); (case k => k_is)))
    (case D_check_width => (refine' VF.defAt KX G ?a ?l ?c ?k; (case a => k_is); (case l => k_is); (case c => k_is); (case k => k_is)))
    (case D_check_state => (refine' VF.defAt KX G ?a ?l ?c ?k; (case a => k_is); (case l => k_is); (case c => k_is); (case k => k_is)))
    (case D_many_bits => (refine' VF.defAt KX G ?a ?l ?c ?k; (case a => k_is); (case l => k_is); (case c => k_is); (case k => k_is)))
    (case D_plain_step => (refine' VF.defAt KX G ?a ?l ?c ?k; (case a => k_is); (case l => k_is); (case c => k_is); (case k => k_is)))
    (case D_state_bits => (refine' VF.defAt KX G ?a ?l ?c ?k; (case a => k_is); (case l => k_is); (case c => k_is); (case k => k_is)))
    (case D_state_of => (refine' VF.defAt KX G ?a ?l ?c ?k; (case a => k_is); (case l => k_is); (case c => k_is); (case k => k_is)))
    (case D_law_start => (refine' VF.defAt KX G ?a ?l ?c ?k; (case a => k_is); (case l => k_is); (case c => k_is); (case k => k_is)))
    (case D_law_draw => (refine' VF.defAt KX G ?a ?l ?c ?k; (case a => k_is); (case l => k_is); (case c => k_is); (case k => k_is)))
    (case D_law_pick => (refine' VF.defAt KX G ?a ?l ?c ?k; (case a => k_is); (case l => k_is); (case c => k_is); (case k => k_is)))
    (case D_law_like => (refine' VF.defAt KX G ?a ?l ?c ?k; (case a => k_is); (case l => k_is); (case c => k_is); (case k => k_is)))
    (case D_law_word_bits => (refine' VF.defAt KX G ?a ?l ?c ?k; (case a => k_is); (case l => k_is); (case c => k_is); (case k => k_is)))
    (case D_law_words_bits => (refine' VF.defAt KX G ?a ?l ?c ?k; (case a => k_is); (case l => k_is); (case c => k_is); (case k => k_is)))
    (case D_law_step => (refine' VF.defAt KX G ?a ?l ?c ?k; (case a => k_is); (case l => k_is); (case c => k_is); (case k => k_is)))
    (case D_law_state => (refine' VF.defAt KX G ?a ?l ?c ?k; (case a => k_is); (case l => k_is); (case c => k_is); (case k => k_is)))
    (case D_law_state_bits => (refine' VF.defAt KX G ?a ?l ?c ?k; (case a => k_is); (case l => k_is); (case c => k_is); (case k => k_is)))
    (case D_law_many_bits => (refine' VF.defAt KX G ?a ?l ?c ?k; (case a => k_is); (case l => k_is); (case c => k_is); (case k => k_is)))
    (case D_law_told => (refine' VF.defAt KX G ?a ?l ?c ?k; (case a => k_is); (case l => k_is); (case c => k_is); (case k => k_is)))
    (case D_law_read => (refine' VF.defAt KX G ?a ?l ?c ?k; (case a => k_is); (case l => k_is); (case c => k_is); (case k => k_is)))
    (case D_law_bent => (refine' VF.defAt KX G ?a ?l ?c ?k; (case a => k_is); (case l => k_is); (case c => k_is); (case k => k_is)))
    (case D_law_bent_bits => (refine' VF.defAt KX G ?a ?l ?c ?k; (case a => k_is); (case l => k_is); (case c => k_is); (case k => k_is)))
    (case D_law => (refine' VF.defAt KX G ?a ?l ?c ?k; (case a => k_is); (case l => k_is); (case c => k_is); (case k => k_is)))
    (case c_MOST_WIDTH => (refine' PySem.W.mg_of KX G ?a; (case a => k_is)))
    case R_InvalidNumber =>
      refine' T.excC_mk (st := T.st_InvalidNumber_init) KX G ?q_a (T.own_mk (st := T.st_InvalidNumber_init) (qual := "InvalidNumber.__init__") ?q_ov ?q_hd ?q_sa ?q_ini ?q_iC ?q_tI ?q_l ?q_hc ?q_lc ?q_v2 ?q_hf ?q_ll ?q_tx ?q_kd ?q_nc ?q_sn ?q_fn2 ?q_sl ?q_ar ?q_sup ?q_subB ?q_subO ?q_top ?q_stat) ?q_sto ?q_kC ?q_nS ?q_exC ?q_tyC ?q_no ?q_noc ?q_xf
      (case q_a => k_is); (case q_iC => k_is); (case q_tI => k_is); (case q_l => k_is); (case q_hc => k_is); (case q_lc => k_is); (case q_v2 => rfl); (case q_hf => first | rfl | kernel_rfl | decide +kernel); (case q_ll => k_is)
      (case q_ov => kernel_rfl); (case q_hd => k_is); (case q_sa => k_is); (case q_ini => kernel_rfl)
      (case q_tx => exact ⟨_, _, _, _, _, _, _, _, rfl, rfl⟩); (case q_kd => exact ⟨rfl, rfl, rfl⟩); (case q_nc => decide +kernel); (case q_sn => rfl); (case q_fn2 => rfl); (case q_sl => rfl); (case q_ar => exact ⟨_, rfl, rfl⟩)
      (case q_sup => kernel_rfl); (case q_subB => k_is); (case q_subO => k_is); (case q_top => first | rfl | kernel_rfl); (case q_stat => k_is)
      (case q_sto => exact T.sto_one (y := "value") rfl (fun s a u => .of_eq rfl) rfl rfl rfl rfl rfl)
      (case q_kC => k_is); (case q_nS => k_is); (case q_exC => k_is); (case q_tyC => k_is)
      (case q_no => (intro f hf; (obtain rfl : f = ("value" : Str) := by simpa using hf); k_is))
      (case q_noc => k_is)
      (case q_xf => exact ⟨by k_is, by k_is, by k_is, by k_is⟩)
    case R_BadBits =>
      refine' T.excC_mk (st := T.st_BadBits_init) KX G ?q_a (T.own_mk (st := T.st_BadBits_init) (qual := "BadBits.__init__") ?q_ov ?q_hd ?q_sa ?q_ini ?q_iC ?q_tI ?q_l ?q_hc ?q_lc ?q_v2 ?q_hf ?q_ll ?q_tx ?q_kd ?q_nc ?q_sn ?q_fn2 ?q_sl ?q_ar ?q_sup ?q_subB ?q_subO ?q_top ?q_stat) ?q_sto ?q_kC ?q_nS ?q_exC ?q_tyC ?q_no ?q_noc ?q_xf
      (case q_a => k_is); (case q_iC => k_is); (case q_tI => k_is); (case q_l => k_is); (case q_hc => k_is); (case q_lc => k_is); (case q_v2 => rfl); (case q_hf => first | rfl | kernel_rfl | decide +kernel); (case q_ll => k_is)
      (case q_ov => kernel_rfl); (case q_hd => k_is); (case q_sa => k_is); (case q_ini => kernel_rfl)
      (case q_tx => exact ⟨_, _, _, _, _, _, _, _, rfl, rfl⟩); (case q_kd => exact ⟨rfl, rfl, rfl⟩); (case q_nc => decide +kernel); (case q_sn => rfl); (case q_fn2 => rfl); (case q_sl => rfl); (case q_ar => exact ⟨_, rfl, rfl⟩)
      (case q_sup => kernel_rfl); (case q_subB => k_is); (case q_subO => k_is); (case q_top => first | rfl | kernel_rfl); (case q_stat => k_is)
      (case q_sto => exact T.sto_one (y := "at") rfl (fun s a u => .of_eq rfl) rfl rfl rfl rfl rfl)
      (case q_kC => k_is); (case q_nS => k_is); (case q_exC => k_is); (case q_tyC => k_is)
      (case q_no => (intro f hf; (obtain rfl : f = ("at" : Str) := by simpa using hf); k_is))
      (case q_noc => k_is)
      (case q_xf => exact ⟨by k_is, by k_is, by k_is, by k_is⟩)
    case R_BadWords =>
      refine' T.excC_mk (st := T.st_BadWords_init) KX G ?q_a (T.own_mk (st := T.st_BadWords_init) (qual := "BadWords.__init__") ?q_ov ?q_hd ?q_sa ?q_ini ?q_iC ?q_tI ?q_l ?q_hc ?q_lc ?q_v2 ?q_hf ?q_ll ?q_tx ?q_kd ?q_nc ?q_sn ?q_fn2 ?q_sl ?q_ar ?q_sup ?q_subB ?q_subO ?q_top ?q_stat) ?q_sto ?q_kC ?q_nS ?q_exC ?q_tyC ?q_no ?q_noc ?q_xf
      (case q_a => k_is); (case q_iC => k_is); (case q_tI => k_is); (case q_l => k_is); (case q_hc => k_is); (case q_lc => k_is); (case q_v2 => rfl); (case q_hf => first | rfl | kernel_rfl | decide +kernel); (case q_ll => k_is)
      (case q_ov => kernel_rfl); (case q_hd => k_is); (case q_sa => k_is); (case q_ini => kernel_rfl)
      (case q_tx => exact ⟨_, _, _, _, _, _, _, _, rfl, rfl⟩); (case q_kd => exact ⟨rfl, rfl, rfl⟩); (case q_nc => decide +kernel); (case q_sn => rfl); (case q_fn2 => rfl); (case q_sl => rfl); (case q_ar => exact ⟨_, rfl, rfl⟩)
      (case q_sup => kernel_rfl); (case q_subB => k_is); (case q_subO => k_is); (case q_top => first | rfl | kernel_rfl); (case q_stat => k_is)
      (case q_sto => exact T.sto_one (y := "at") rfl (fun s a u => .of_eq rfl) rfl rfl rfl rfl rfl)
      (case q_kC => k_is); (case q_nS => k_is); (case q_exC => k_is); (case q_tyC => k_is)
      (case q_no => (intro f hf; (obtain rfl : f = ("at" : Str) := by simpa using hf); k_is))
      (case q_noc => k_is)
      (case q_xf => exact ⟨by k_is, by k_is, by k_is, by k_is⟩)
    (case X_ii => exact PySem.W.exm_ref (by k_is) (by k_is) (by k_is) (by k_is)); (case X_wi => exact PySem.W.exm_ref (by k_is) (by k_is) (by k_is) (by k_is)); (case X_ww => exact PySem.W.exm_ref (by k_is) (by k_is) (by k_is) (by k_is)); (case X_bi => exact PySem.W.exm_ref (by k_is) (by k_is) (by k_is) (by k_is)); (case X_bb => exact PySem.W.exm_ref (by k_is) (by k_is) (by k_is) (by k_is))
