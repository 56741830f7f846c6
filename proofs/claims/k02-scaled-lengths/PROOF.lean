import PyProof.Rows.All
import Wide.All
import OpenK.AllK
import Wide.FinOn
import KE.KStateDown
import Lean
import HandS.ForMost
import HandS.ForExc
import HandS.TryMany
import HandS.ExcField
import HandS.ExcSuper
import HandS.Flow
import HandS.Wide
import HandS.IsInst
import HandS.FStr
import HandS.RaiseMore
import HandS.Defaults
import HandS.Deep
import HandS.StrMore
import HandS.Head0
import HandS.Head1
import HandS.Head2
import HandS.HeadEnd
import HandS.HeadHook1
import HandS.HeadHook2
import HandS.HeadHook3
import HandS.HeadHook4
import KE.KExcSuper
import HandS.HeadWalk
import PyProof.ExcBaseAll.IndexError
import PyProof.ExcBaseAll.OverflowError
import HandS.Style
import PySem.Challenge.RW_pagewright_k02_scaled_lengths_and_errors
set_option Elab.async false
set_option linter.all false
set_option maxRecDepth 100000
set_option maxHeartbeats 4000000
/-! ## Part A: promises of defs that are only called where no repr is under way -/
namespace Pw
open PySem PySem.Spec PyProof.Rows L2

/-- the promise of a def, for callers that stand in no repr -/
structure FnG (P : Program) (w : World) (K : PySem.W.Frag) (mg : Str → Option Value) (base : Heap) (k : Nat) (f : Addr) (fd : FuncData) (ps : List Str) (sp : Sp) : Prop where
  len : ∀ vs H Q E, sp vs H Q E → vs.length = ps.length
  run : ∀ (A : Around) (outer : List Env) (s : Shared) (H : Hp) (args : Args) (us : List Value) (vs : List V) (Q : VK) (E : XK), Room k A → A.guards = some [] →
    Env0 P w K mg base A outer s H → BindsTo s fd args (ps.zip us) → Vals vs us → sp vs H Q E → codeAny (model P w) A (.call (.ref f) args) (CR (L2.CX P w) outer P w H s Q E) s

theorem FnG.of {P : Program} {w : World} {K : PySem.W.Frag} {mg : Str → Option Value} {base : Heap} {k : Nat} {f : Addr} {fd : FuncData} {ps : List Str} {sp : Sp} (F : FnOk P w K mg base (L2.CX P w) k f fd ps sp) : FnG P w K mg base k f fd ps sp :=
  ⟨F.len, fun A outer s H args us vs Q E hr _ => F.run A outer s H args us vs Q E hr⟩

theorem guards_deeper (A : Around) (env : Env) : (A.deeper env).guards = A.guards := by
  first | rfl | (cases A; simp [Around.deeper])

theorem fnG_of {P : Program} {w : World} {K : PySem.W.Frag} {mg : Str → Option Value} {base : Heap} {k : Nat} {f : Addr} {fd : FuncData} {x qual : Str} {params : Arguments} {body : List Stmt} {scope : Scope} {dvs : List V} {kws : List (Str × V)}
    {N ps : List Str} {sp : Sp} (F : FunD K x qual params body scope dvs kws f fd) (S : FnScope N ps scope) (len : ∀ vs H Q E, sp vs H Q E → vs.length = ps.length)
    (hbody : ∀ (cdv : Value) (A : Around) (outer : List Env) (s : Shared) (H : Hp) (vs : List V) (Q : VK) (E : XK), Room k (A.deeper (envOfC qual scope s.heap.objs.size f cdv)) → (A.deeper (envOfC qual scope s.heap.objs.size f cdv)).guards = some [] → sp vs H Q E →
      ∃ t, PSs (cxOf (L2.CX P w) P w K mg base N qual scope f cdv A outer s H E) body t ∧ t { nx := fun _ H' => Q .non H', rt := Q } (start N vs) H) :
    FnG P w K mg base (k + 1) f fd ps sp := by
  obtain ⟨oc, od, dV, kV, doc, pm, an, cdv, ct, osl, rfl, lk, hcd, _, _⟩ := F.ex
  refine ⟨len, fun A outer s H args us vs Q E room hgd env0 bnd rel want => ?_⟩
  have lenV := len _ _ _ _ want
  have KX : K.In s.heap := env0.mod.kin.keeps fun b o e => (env0.bs b o e).1
  have lim : s.heap.NoLimit := env0.mod.nolimit.keeps fun b o e => (env0.bs b o e).1
  have kinds : ∀ y ∈ ps.zip us, scope.names.lookup y.1 = some .local ∨ (scope.names.lookup y.1 = some .cell ∧ ((cellsFrom (s.heap.objs.size + 1) scope.names []).lookup y.1).isSome = true) := by
    rintro ⟨n, v⟩ hy
    cases S.par n (List.of_mem_zip hy).1 with
    | inl q => exact Or.inl q
    | inr q => exact Or.inr ⟨q, PySem.W.cellsFrom_some _ _ _ (Or.inl q)⟩
  refine codeAny_call_function room.depth (KX _ _ lk) rfl S.co S.gen rfl (PySem.W.codeRec_of KX hcd) (bnd _ _ _ _ (wpAny_newFunctionEnv_cells S.kind kinds fun env he s1 inC => ?_))
  subst he
  obtain ⟨t, der, rd⟩ := hbody cdv A outer s H vs Q E (room.deeper _) (by rw [guards_deeper]; exact hgd) want
  have I : Inv (cxOf (L2.CX P w) P w K mg base N qual scope f cdv A outer s H E) [] (start N vs) H s1 := inv_start S room.hd env0 lenV rel inC
  refine ⟨lim.keeps inC.toInCall.keep, codeAny_func (wpAny_mono (der.run [] s1 (start N vs) H _ I rd) (fun fl s' done => ?_) fun e s' z => z)⟩
  have close : ∀ {σ' : L2.St} {H' : Hp} {v : V} {u : Value}, Inv (cxOf (L2.CX P w) P w K mg base N qual scope f cdv A outer s H E) [] σ' H' s' → RelV v u → Q v H' → CE outer P w H s Q u s' :=
    fun J rv q => ⟨_, _, J.os, J.bare, J.base, J.hok, rv, q⟩
  match fl, done with
  | .ret u, ⟨v, σ', H', J, rv, q⟩ => exact close J rv q
  | .next, ⟨σ', H', J, q⟩ => exact close (v := V.non) (u := Value.none) J rfl q
  | .brk, ⟨_, _, _, q⟩ => exact q.elim
  | .cont, ⟨_, _, _, q⟩ => exact q.elim

section
variable {X : Cx} {k : Nat} {f : Addr} {fd : FuncData} {ps : List Str} {sp : Sp} {E : L2.St → XK} {x : Str} {p pos : Pos} {e : Expr} {es : List Expr} {t : TA}
theorem run_fnG {pins : List (Addr × Obj)} {σ : L2.St} {H : Hp} {s : Shared} {Q : VK} {us : List Value} {vs : List V} (F : FnG X.prog X.w X.K X.mg X.base k f fd ps sp) (hr : Room k X.A) (hg : X.A.guards = some []) (hb : Binds X.K fd ps [])
    (hx : PassesAt (L2.CX X.prog X.w) X σ (E σ)) (I : Inv X pins σ H s) (r : Vals vs us) (h : sp vs H Q (E σ)) : wpAny (model X.prog X.w) X.A (call (.ref f) us) (EP X pins σ Q) X.xe s := by
  have b := hb s us I.kIn (by rw [List.append_nil, ← r.length]; exact F.len _ _ _ _ h)
  rw [List.append_nil] at b
  refine wpAny_call (codeAny_mono (F.run X.A X.stack s H ⟨us, []⟩ us vs Q (E σ) hr hg I.env0 b r h) fun res s' hq => ?_)
  match res, hq with
  | .error ex, hq => exact hx pins H s ex s' I hq
  | .ok (.ret u), hq => exact I.after hq
  | .ok .next, hq => exact hq.elim
  | .ok .brk, hq => exact hq.elim
  | .ok .cont, hq => exact hq.elim
/-- f(e, ..) -/
theorem pe_callG (F : FnG X.prog X.w X.K X.mg X.base k f fd ps sp) (hr : Room k X.A) (hgd : X.A.guards = some []) (hg : Gl X x) (hm : X.mg x = some (.ref f)) (hk : PySem.W.keepIn X.K (.ref f) = true) (hb : Binds X.K fd ps [])
    (hx : ∀ σ, PassesAt (L2.CX X.prog X.w) X σ (E σ)) (ha : PA X (e :: es) t) (hdb : (x == ("__debug__" : Str)) = false := by decide)
    (he : starEach (e :: es) X.env = (false, eval e X.env) :: starEach es X.env := by rfl) (hpl : (backTo pos (starEach es X.env)).any (·.1) = false := by rfl) :
    PE X (.Call (.Name x p) (e :: es) [] pos) (tCallS sp E t) := by
  refine ⟨fun pins s σ H Q I h => wpAny_Call_Name_kw (ld_glob I hg hm (PySem.W.callWith_K (h₀ := X.base) I.ok.mod.kin hk (thn (ha.run pos pins s σ H _ I h) ?_) he hpl) hdb)⟩
  rintro us s1 ⟨vs, H1, I1, r, q⟩
  exact ⟨I1.kIn, run_fnG F hr hgd hb (hx σ) I1 r q⟩
end

/-- the law's call, by its promise FnG -/
theorem law_callG {P : Program} {w : World} {K : PySem.W.Frag} {mg mb : Str → Option Value} {k : Nat} {fa a : Addr} {x : Str} {sp : Sp} {s1 : Shared} {vs : List Value} {ns : List Int}
    (KX : K.In s1.heap) (hns : s1.heap.Ns mainGlobals mg) (hb : s1.heap.Ns builtinsNs mb) (hbb : ∀ x : Str, x ≠ "__name__" → mb x = bootBuiltins x) (hlim : s1.heap.NoLimit) (hg : s1.gens = #[])
    (ha : s1.heap.get? a = some { cls := .type "list", data := .seq vs.toArray }) (hi : IntsAre vs ns) (hl : ns.length ≤ sizeLine) (hr : Room k callerA)
    (F : ∀ base : Heap, K.In base → base.Ns mainGlobals mg → ∃ fd, FnG P w K mg base k fa fd [x] sp ∧ Binds K fd [x] [])
    (hsp : ∀ H : Hp, Only H → SqL K H a (ns.map V.int) → sp [.ref a] H (fun v _ => v = .bl true) fun _ _ _ => False) :
    codeAny (model P w) callerA (.call (.ref fa) ⟨[.ref a], []⟩) (fun r s' => r = .ok (.ret (.bool true)) ∧ OldK s1.heap s'.heap ∧ s'.os = s1.os ∧ AllBare s'.gens) s1 := by
  -- what is tracked: the script alone, locked, or nothing
  suffices core : ∀ H : Hp, Only H → SqL K H a (ns.map V.int) → HOk P w H s1.heap → (∀ b, H b ≠ none → b = a ∧ K.lookup b = none) →
      codeAny (model P w) callerA (.call (.ref fa) ⟨[.ref a], []⟩) (fun r s' => r = .ok (.ret (.bool true)) ∧ OldK s1.heap s'.heap ∧ s'.os = s1.os ∧ AllBare s'.gens) s1 by
    have rv := vals_ints hi
    cases hk : K.lookup a with
    | some o =>
      have e := KX a o hk
      rw [ha] at e
      cases e
      refine core (fun _ => none) (fun _ => Or.inl rfl) (Or.inr ⟨_, vs.toArray, _, hk, rfl, rfl, rfl, ?_, ?_⟩) (fun b u z => ?_) (fun b z => absurd rfl z)
      · rw [List.size_toArray, hi.length]
        exact hl
      · simpa using rv
      · cases (show (none : Option HO) = some u from z)
    | none =>
      obtain ⟨H, hH⟩ : ∃ H : Hp, H = fun b => if b = a then some (HO.frz { cls := .type "list", data := .seq vs.toArray } (.lst (ns.map V.int))) else none := ⟨_, rfl⟩
      have at_a : H a = some (.frz { cls := .type "list", data := .seq vs.toArray } (.lst (ns.map V.int))) := by rw [hH]; exact if_pos rfl
      have off : ∀ b, b ≠ a → H b = none := fun b hne => by rw [hH]; exact if_neg hne
      refine core H (fun b => ?_) (Or.inl (Or.inr ⟨_, at_a⟩)) (fun b u z => ?_) (fun b z => ?_)
      · by_cases q : b = a
        · exact Or.inr ⟨_, _, by rw [q]; exact at_a⟩
        · exact Or.inl (off b q)
      · by_cases q : b = a
        · subst q
          rw [at_a] at z
          cases z
          exact ⟨ha, by rw [List.length_map]; exact hl, vs, _, rv, ha⟩
        · rw [off b q] at z
          cases z
      · by_cases q : b = a
        · exact ⟨q, by rw [q]; exact hk⟩
        · exact absurd (off b q) z
  intro H hO hS hok hA
  have stays : ∀ {b : Addr} {o : Obj}, s1.heap.get? b = some o → H b = none → (hidT s1.heap H).get? b = some o := fun e n => hidT_get e n
  have nsK : ∀ {b : Addr} {m : Str → Option Value}, s1.heap.Ns b m → (hidT s1.heap H).Ns b m := by
    rintro b m ⟨o, es, ep, e, d, r⟩
    refine ⟨o, es, ep, stays e ?_, d, r⟩
    cases q : H b with
    | none => rfl
    | some u =>
      have eb := (hA b (by rw [q]; simp)).1
      rw [eb, ha] at e
      cases e
      cases (show Data.seq vs.toArray _ = Data.dict es ep from d)
  have hKb : K.In (hidT s1.heap H) := fun b o e => stays (KX b o e) (by
    cases q : H b with
    | none => rfl
    | some u =>
      rw [(hA b (by rw [q]; simp)).2] at e
      cases e)
  have hM : Mod K mg (hidT s1.heap H) := ⟨hKb, nsK hns, ⟨mb, nsK hb, hbb⟩, by
    obtain ⟨mc, h1, h2⟩ := hlim
    exact ⟨mc, nsK h1, h2⟩⟩
  have env0 : Env0 P w K mg (hidT s1.heap H) callerA [] s1 H := ⟨rfl, hM, fun b o e => of_hidT e, Nat.le_of_eq (hidT_size _ _), trivial, fun b hb => absurd (show b ∈ ([] : List Addr) from hb) (by simp), hok, .of_eq hg⟩
  obtain ⟨fd, FG, hbind⟩ := F _ hKb (nsK hns)
  refine codeAny_mono (FG.run callerA [] s1 H ⟨[.ref a], []⟩ [.ref a] [.ref a] _ _ hr rfl env0 (hbind s1 [.ref a] KX rfl) (.cons rfl .nil) (hsp H hO hS)) fun r s' h => ?_
  match r, h with
  | .error e, ⟨_, _, _, _, _, _, _, _, _, _, _, _, z⟩ => exact z.elim
  | .ok .next, h => exact h.elim
  | .ok .brk, h => exact h.elim
  | .ok .cont, h => exact h.elim
  | .ok (.ret u), ⟨v, H', os, bare, un, hok', rv, q⟩ =>
    obtain rfl : v = .bl true := q
    obtain rfl : u = Value.bool true := rv
    refine ⟨rfl, OldK.of_keep fun b o e => ?_, os, bare⟩
    cases hO b with
    | inl z => exact un.keep b o e z (fun m => absurd (show b ∈ ([] : List Addr) from m) (by simp)) (by simp)
    | inr z =>
      obtain ⟨ob, xs, z⟩ := z
      have e1 := (hok b _ z).1
      have e2 := (hok' b _ (un.frzs b ob _ z)).1
      rw [e] at e1
      cases e1
      exact e2

theorem walk_ofG {l : PySem.W.OpenLaw} {n k : Nat} {q : Program} {loose : List Str} {XP : (Str → Option Value) → Heap → Prop} {YP : World → Heap → Prop} {d : DefRec} {x : Str}
    (hn : l.most = some n) (hn2 : n ≤ sizeLine) (hdf : d.params.defaults = []) (hr : Room k callerA)
    (F : ∀ (w : World) (mg : Str → Option Value) (fa : Addr) (h : Heap), YP w h → h.Ns mainGlobals mg → mg d.name = some (.ref fa) →
      ∃ (K : PySem.W.Frag) (sp : Sp), K.In h ∧
        (∀ (H : Hp) (a : Addr) (ns : List Int), ns.length ≤ n → Only H → SqL K H a (ns.map V.int) → sp [.ref a] H (fun v _ => v = .bl true) fun _ _ _ => False) ∧
        ∀ base : Heap, K.In base → base.Ns mainGlobals mg → ∃ fd, FnG l.prog w K mg base k fa fd [x] sp ∧ Binds K fd [x] []) :
    PySem.W.WalkO q loose XP YP l.row.toRowW d [] (fun f vs => PySem.call f vs) := by
  refine Att.attach_call hn hdf ?_
  intro w s0 s1 mg mb fa o pm cd doc a vs ns G Y ho hd hcd hmg hobj hints hlen hg
  obtain ⟨K, sp, KX, hsp, hF⟩ := F w mg fa _ Y G.T.g hmg
  exact law_callG KX G.T.g G.T.b G.T.builtins G.T.nolimit hg hobj hints (Nat.le_trans hlen hn2) hr hF fun H hO hS => hsp H a ns hlen hO hS
end Pw

/-! ## Part B: try with several clauses, some of which name the exception -/
namespace Pw
open PySem PySem.Spec PyProof.Rows L2

abbrev Suite := Addr → Value → Option Addr → TS
/-- a clause: the class it names, the slot of its name, its suite -/
abbrev Clause := Value × Option Nat × Suite
def endsOf (D : Ends) : Option Nat → Ends
  | none => D
  | some i => { nx := fun σ H => D.nx (σ.set i none) H, rt := D.rt, bk := fun σ H => D.bk (σ.set i none) H, ct := fun σ H => D.ct (σ.set i none) H }
def slotOf (σ : L2.St) (a : Addr) : Option Nat → L2.St
  | none => σ
  | some i => σ.set i (some (.ref a))
def wMix (K : PySem.W.Frag) (Wout : WX) (D : Ends) : List Clause → WX
  | [] => Wout
  | (c, oi, ts) :: r => fun cls d σ H => ∃ b, PySem.W.exmOne K cls c = some b ∧ (b = true → ∀ a, H a = none → ts a cls d (endsOf D oi) (slotOf σ a oi) H) ∧ (b = false → wMix K Wout D r cls d σ H)

inductive HdMix (X : Cx) : List ExceptHandler → List Clause → Prop
  | nil : HdMix X [] []
  | plain {x : Str} {c : Value} {ts : Suite} {b0 : Stmt} {suite : List Stmt} {np pos' : Pos} {hds : List ExceptHandler} {l : List Clause} (hc : Names X x c)
      (hsu : ∀ (a : Addr) (oe : Obj) (cls : Value) (d : Option Addr) (pn : List (Addr × Obj)), Zc cls d oe → (∃ vs, oe.data = .fields vs) → PSs (X.suite a ((a, oe) :: pn)) (b0 :: suite) (ts a cls d)) (r : HdMix X hds l) :
      HdMix X (.ExceptHandler (some (.Name x np)) none (b0 :: suite) pos' :: hds) ((c, none, ts) :: l)
  | named {x n : Str} {c : Value} {i : Nat} {ts : Suite} {b0 : Stmt} {suite : List Stmt} {np pos' : Pos} {hds : List ExceptHandler} {l : List Clause} (hN : X.N.Nodup) (hi : X.N[i]? = some n) (hln : X.env.kindOf n = some .local) (hc : Names X x c)
      (hsu : ∀ (a : Addr) (oe : Obj) (cls : Value) (d : Option Addr) (pn : List (Addr × Obj)), Zc cls d oe → (∃ vs, oe.data = .fields vs) → PSs (X.suite a ((a, oe) :: pn)) (b0 :: suite) (ts a cls d)) (r : HdMix X hds l) :
      HdMix X (.ExceptHandler (some (.Name x np)) (some n) (b0 :: suite) pos' :: hds) ((c, some i, ts) :: l)

section
variable {X : Cx} {body : List Stmt} {hd0 : ExceptHandler} {hds : List ExceptHandler} {l : List Clause} {pos : Pos} {tb : WX → TS} {Wout : WX}
theorem ps_try_mix (hs : X.stack = X.env :: X.outer) (hf : X.env.frame = some X.env.locals) (tk : Takes X Wout)
    (hb : ∀ (W : WX) (pn : List (Addr × Obj)) (xe : Value → Shared → Prop), Takes (X.tr pn xe) W → PassesOwn (model X.prog X.w) X.A X.env xe → PSs (X.tr pn xe) body (tb W))
    (hh : HdMix X (hd0 :: hds) l) : PS X (.Try body (hd0 :: hds) [] [] pos) (fun D σ H => tb (wMix X.K Wout D l) D σ H) := by
  refine ⟨fun pins s σ H D I h => wpAny_Try_except ?_⟩
  have ok := I.ok
  have hfr : X.A.frames = some (X.env :: X.outer) := by rw [ok.frames, hs]
  -- what the handlers make of an exception of the body
  obtain ⟨xe, hxe⟩ : ∃ xe : Value → Shared → Prop, xe = fun e s1 => wpAny (model X.prog X.w) X.A (noteFrame e X.env) (fun _ s2 => wpAny (model X.prog X.w) X.A (setFlight e none) (fun _ s3 =>
    wpAny (model X.prog X.w) X.A (handleBy e X.env (hd0 :: hds)) (SP X pins D) X.xe s3) X.xe s2) X.xe s1 := ⟨_, rfl⟩
  have tkb : Takes (X.tr (X.pn ++ pins) xe) (wMix X.K Wout D l) := by
    rintro u s' ⟨a, B, sI, pins', σ', H', cls, d, rfl, J', nb, up, sky, na, os, ag, w⟩
    have J : Inv X pins σ' H' sI := J'.ofTry ok
    show xe (.ref a) s'
    rw [hxe]
    show wpAny (model X.prog X.w) X.A (noteFrame (.ref a) X.env) _ _ _
    refine Sky.land Zc.steady hfr hf (by rw [← hs]; exact sky) fun h3 fl3 up3 => ?_
    have J3 : Inv X pins σ' H' { s' with heap := h3 } := J.landed nb fl3.1 (up.trans up3) os ag
    obtain ⟨oe3, vs3, he3, hz3, hd3⟩ := fl3.there
    have nfr : a ∉ frs (X.env :: X.outer) := fun hm => by
      obtain ⟨_, o', e', hnf⟩ := fl3.2.2.1.mem hm
      rw [he3] at e'
      cases e'
      exact hnf _ hd3
    have nL : a ≠ X.env.locals := fun z => nfr (List.mem_filterMap.mpr ⟨X.env, List.mem_cons_self, by rw [hf, z]⟩)
    have nF : a ∉ X.fs := fun hm => by
      obtain ⟨e, he, q⟩ := List.mem_filterMap.mp hm
      exact nfr (List.mem_filterMap.mpr ⟨e, List.mem_cons_of_mem _ he, q⟩)
    have S3 := J3.suite he3 hd3 na nL nF
    have test : ∀ {x : Str} {c : Value} {np : Pos}, Names X x c → ∀ {Q : Value → Shared → Prop} {E : Value → Shared → Prop}, Q c { s' with heap := h3 } →
        wpAny (model X.prog X.w) (X.A.mark (some (.ref a))) (eval (.Name x np) X.env) Q E { s' with heap := h3 } := by
      rintro x c np ⟨hg, hdbg, hm⟩ Q E q
      cases hm with
      | inl hm => exact ld_glob (X := X.suite a ((a, oe3) :: (X.pn ++ pins))) S3 hg hm q hdbg
      | inr hm => exact ld_blt (X := X.suite a ((a, oe3) :: (X.pn ++ pins))) S3 hg hm.1 hm.2.1 q hm.2.2 hdbg
    have LT : PySem.W.Looks (model X.prog X.w) h3 (typeOf (.ref a)) cls := fun A Q E s k q => wpAny_typeOf_ref (k _ _ he3) (by rw [hz3.1]; exact q)
    suffices go : ∀ {hds' : List ExceptHandler} {l' : List Clause}, HdMix X hds' l' → wMix X.K Wout D l' cls d σ' H' →
        wpAny (model X.prog X.w) X.A (handleBy (.ref a) X.env hds') (SP X pins D) X.xe { s' with heap := h3 } from go hh w
    intro hds' l' hk
    induction hk with
    | nil =>
      intro w
      refine wpAny_handleBy_nil ?_
      obtain ⟨k1, k2, k3, oe, vs, T, oT, ts', he, hz, hd, h1, hr⟩ := id fl3
      unfold PySem.passOn
      refine wpAny_bind (wpAny_field he hd h1 ?_)
      rw [if_neg (show ¬ ((Value.ref T == Value.none) = true) from by simp)]
      have fin : wpAny (model X.prog X.w) X.A (setFlight (.ref a) X.env.frame) (fun _ s4 => wpAny (model X.prog X.w) X.A (throw (.ref a) : Sem Flow) (SP X pins D) X.xe s4) X.xe { s' with heap := h3 } := by
        rw [hf]
        exact HandSPX.setFlight_upZ fl3 fun h4 hh4 up4 => wpAny_throw (tk _ _ ⟨a, B, sI, pins, σ', H', cls, d, rfl, J, nb, (up.trans up3).trans up4, Or.inr (Or.inr (by rw [hs]; exact hh4)), na, os, ag, w⟩)
      first
        | exact wpAny_bind fin
        | exact wpAny_bind (wpAny_pure (wpAny_bind fin))
    | @plain x c ts b0 suite np pos' hds2 l2 hc hsu r ih =>
      rintro ⟨b, hb1, hyes, hno⟩
      refine wpAny_handleBy_cons (codeAny_handlers_test (test hc ((PySem.W.exm_one (M := model X.prog X.w) J3.kIn LT hb1).here ?_))) (by intro q; cases q)
      cases b with
      | false => exact ih (hno rfl)
      | true =>
        refine codeAny_handlers_suite (HandSPX.lands_againZ fl3 fun h4 fl4 up4 => ?_)
        have J4 : Inv X pins σ' H' { s' with heap := h4 } := J.landed nb fl4.1 ((up.trans up3).trans up4) os ag
        obtain ⟨oe4, vs4, he4, hz4, hd4⟩ := fl4.there
        refine wpAny_mono ((hsu a oe4 cls d (X.pn ++ pins) hz4 ⟨_, hd4⟩).run [] _ _ H' _ (J4.suite he4 hd4 na nL nF) (hyes rfl a na)) (fun f s6 hsp => ?_) (fun _ _ z => z.elim)
        match f, hsp with
        | .next, ⟨_, _, S6, q6⟩ => exact ⟨_, _, S6.unsuite ok, q6⟩
        | .brk, ⟨_, _, S6, q6⟩ => exact ⟨_, _, S6.unsuite ok, q6⟩
        | .cont, ⟨_, _, S6, q6⟩ => exact ⟨_, _, S6.unsuite ok, q6⟩
        | .ret u, ⟨_, _, _, S6, r6, q6⟩ => exact ⟨_, _, _, S6.unsuite ok, r6, q6⟩
    | @named x n c i ts b0 suite np pos' hds2 l2 hN hi hln hc hsu r ih =>
      rintro ⟨b, hb1, hyes, hno⟩
      refine wpAny_handleBy_cons (codeAny_handlers_test (test hc ((PySem.W.exm_one (M := model X.prog X.w) J3.kIn LT hb1).here ?_))) (by intro q; cases q)
      cases b with
      | false => exact ih (hno rfl)
      | true =>
        refine codeAny_handlers_suite_as (HandSPX.lands_againZ fl3 fun h4 fl4 up4 => ?_)
        have J4 : Inv X pins σ' H' { s' with heap := h4 } := J.landed nb fl4.1 ((up.trans up3).trans up4) os ag
        obtain ⟨oe4, vs4, he4, hz4, hd4⟩ := fl4.there
        refine store_ok (X := X.suite a ((a, oe4) :: (X.pn ++ pins))) (v := .ref a) (J4.suite he4 hd4 na nL nF) hN hi (show Loc X.env.scope n from Or.inl hln) rfl (fun s5 S5 => ?_) (Or.inr hln)
        refine wpAny_mono ((hsu a oe4 cls d (X.pn ++ pins) hz4 ⟨_, hd4⟩).run [] s5 _ H' _ S5 (hyes rfl a na)) (fun f s6 hsp => ?_) (fun _ _ z => z.elim)
        have ended : ∀ {σ6 : L2.St} {H6 : Hp} {Q : Shared → Prop}, Inv (X.suite a ((a, oe4) :: (X.pn ++ pins))) [] σ6 H6 s6 → (∀ s7, Inv X pins (σ6.set i none) H6 s7 → Q s7) →
            wpAny (model X.prog X.w) X.A (do bindName X.env n .none; unbindBehindTheSuite X.env n pos') (fun _ s7 => Q s7) X.xe s6 := fun S6 hq => gone_ok (S6.unsuite ok) hN hi hln hq
        match f, hsp with
        | .next, ⟨_, _, S6, q6⟩ => exact ended S6 fun s7 J7 => ⟨_, _, J7, q6⟩
        | .brk, ⟨_, _, S6, q6⟩ => exact ended S6 fun s7 J7 => ⟨_, _, J7, q6⟩
        | .cont, ⟨_, _, S6, q6⟩ => exact ended S6 fun s7 J7 => ⟨_, _, J7, q6⟩
        | .ret u, ⟨_, _, _, S6, r6, q6⟩ => exact ended S6 fun s7 J7 => ⟨_, _, _, J7, r6, q6⟩
  refine wpAny_mono ((hb (wMix X.K Wout D l) (X.pn ++ pins) xe tkb (by rw [hxe]; exact PassesOwn.looking)).run [] s σ H D (I.toTry _) h) (fun f s1 hsp => ?_) (fun e s1 he => by rw [hxe] at he; exact he)
  match f, hsp with
  | .next, ⟨_, _, J', q⟩ => exact wpAny_execs_nil ⟨_, _, J'.ofTry ok, q⟩
  | .brk, ⟨_, _, J', q⟩ => exact ⟨_, _, J'.ofTry ok, q⟩
  | .cont, ⟨_, _, J', q⟩ => exact ⟨_, _, J'.ofTry ok, q⟩
  | .ret u, ⟨_, _, _, J', r, q⟩ => exact ⟨_, _, _, J'.ofTry ok, r, q⟩
end
end Pw

/-! ## Part C: exceptions of the package whose __init__ says super().__init__(text) and keeps its argument -/
namespace Pw
open PySem PySem.W PySem.Calls PyProof.Rows PySem.HandSPX

/-! ### the text of such an __init__ -/
def eA (f : Str) (p1 p2 : Pos) : Arguments := { posonlyargs := [], args := [{ arg := "self", annotation := none, pos := p1 }, { arg := f, annotation := none, pos := p2 }], vararg := none, kwonlyargs := [], kw_defaults := [], kwarg := none, defaults := [] }
def eB (f msg : Str) (j : Nat) (q1 q2 q3 q4 q5 q6 r1 r2 r3 r4 : Pos) : List Stmt :=
  [.Expr (.Call (.Attribute (.Call (.Name "super" q1) [] [] q2) "__init__" q3) [.Constant (.str msg) j q4] [] q5) q6, .Assign [.Attribute (.Name "self" r1) f r2] (.Name f r3) r4]
def eS (f : Str) : Scope := { kind := .function, names := [(PySem.Str.ofString "self", .local), (f, .local), (PySem.Str.ofString "__class__", .free), (PySem.Str.ofString "super", .globalImplicit)], isGenerator := false, isCoroutine := false, more := [] }

/-- own classes, then the base's mro -/
def isRf : Value → Bool
  | .ref _ => true
  | _ => false
def overB (bmB l : List Value) : Bool := l.dropWhile isRf == bmB
theorem overB_pass {bmB : List Value} (self : Value) (hp : refuseLoop self "__setattr__" bmB = pure ()) : ∀ l : List Value, overB bmB l = true → refuseLoop self "__setattr__" l = pure ()
  | [], e => by
    have e2 : ([] : List Value) = bmB := beq_iff_eq.mp e
    rw [e2]
    exact hp
  | a :: r, e => by
    cases q : isRf a with
    | true =>
      obtain ⟨c, rfl⟩ : ∃ c, a = .ref c := by
        cases a <;> first | exact ⟨_, rfl⟩ | cases q
      rw [refuseLoop_ref]
      refine overB_pass self hp r ?_
      unfold overB at e ⊢
      rw [List.dropWhile_cons, q] at e
      exact e
    | false =>
      have e2 : a :: r = bmB := by
        unfold overB at e
        rw [List.dropWhile_cons, q] at e
        exact beq_iff_eq.mp e
      rw [e2]
      exact hp
theorem overB_has {bmB : List Value} (X : String) : ∀ l : List Value, overB bmB l = true → l.contains (.type X) = bmB.contains (.type X)
  | [], e => by
    have e2 : ([] : List Value) = bmB := beq_iff_eq.mp e
    rw [e2]
  | a :: r, e => by
    cases q : isRf a with
    | true =>
      obtain ⟨c, rfl⟩ : ∃ c, a = .ref c := by
        cases a <;> first | exact ⟨_, rfl⟩ | cases q
      rw [List.contains_cons, overB_has X r (by
        unfold overB at e ⊢
        rw [List.dropWhile_cons, q] at e
        exact e)]
      rfl
    | false =>
      have e2 : a :: r = bmB := by
        unfold overB at e
        rw [List.dropWhile_cons, q] at e
        exact beq_iff_eq.mp e
      rw [e2]

/-- what is known of a base class among the built-in ones -/
structure BaseX (B newId initId : String) (bmB : List Value) : Prop where
  F : ExcBaseFacts B newId initId bmB
  K : KxsFacts B initId
  pass : ∀ self, refuseLoop self "__setattr__" bmB = pure ()
  obj : bmB.contains (.type "object") = true
theorem baseVE : BaseX "ValueError" "ValueError.__new__" "ValueError.__init__" [.type "ValueError", .type "Exception", .type "BaseException", .type "object"] := ⟨F.excBase_ValueError, kxs_ValueError, F.store_ValueError.passes, by decide +kernel⟩
theorem baseIE : BaseX "IndexError" "IndexError.__new__" "IndexError.__init__" [.type "IndexError", .type "LookupError", .type "Exception", .type "BaseException", .type "object"] := ⟨F.excBase_IndexError, kxs_IndexError, fun self => by kernel_rfl, by decide +kernel⟩
theorem baseOE : BaseX "OverflowError" "OverflowError.__new__" "OverflowError.__init__" [.type "OverflowError", .type "ArithmeticError", .type "Exception", .type "BaseException", .type "object"] := ⟨F.excBase_OverflowError, kxs_OverflowError, fun self => by kernel_rfl, by decide +kernel⟩

/-- what the written part says of such a class, at C, its __init__ at fI -/
structure SupC (K : Frag) (prog : Program) (C fI : Addr) (f : Str) (B newId initId : String) (bmB : List Value) : Prop where
  cls : ∃ nm q N bs bm sn sub ab col dd k0 k1 k2 k3 k5, K.lookup C = some (excClassObj nm q C N bs bm true sn sub ab col dd k0 k1 k2 k3 k5 newId) ∧ overB bmB bm = true ∧ alongIn K "__init__" bm = some (some (.builtin initId))
  sa : findIn K (.ref C) "__setattr__" = some (some (.builtin "object.__setattr__"))
  noN : findIn K (.ref C) f = some none
  iC : findIn K (.ref C) "__init__" = some (some (.ref fI))
  tC : typeIn K (.ref fI) = some (.type "function")
  keep : keepIn K (.ref C) = true
  exC : subIn K (.ref C) (.type "BaseException") = some true
  tyC : typeIn K (.ref C) = some (.type "type")
  sB : subIn K (.ref C) (.type B) = some true
  self : mroIn K C (.ref C) = some true
  opq : nsIn K cStatics "thirdparty.any" = some none
  nsup : nsIn K mainGlobals "super" = some none
  top : (prog.main.scope.names.lookup ("super" : Str)).isSome = false
  kS : (eS f).names.lookup ("self" : Str) = some .local
  kF : (eS f).names.lookup f = some .local
  kC : (eS f).names.lookup ("__class__" : Str) = some .free
  kU : (eS f).names.lookup ("super" : Str) = some .globalImplicit
  bnd : ∀ (qual : Str) (body : List Stmt) (doc pm : Value) (an : Option Addr) (cdv ct : Value) (cc : Addr) (p1 p2 : Pos) (a b : Value), bindArgs (ksFn "__init__" qual (eA f p1 p2) body (eS f) .none .none doc pm an cdv ct cc) ⟨[a, b], []⟩ = pure [(("self" : Str), a), (f, b)]
  nf : (f == ("self" : Str)) = false
  nd : (f == ("__debug__" : Str)) = false
  fn : ∃ (oc : Value) (od : Option Addr) (doc pm : Value) (an : Option Addr) (cda : Addr) (ct : Value) (osl : Array (Option Value)) (qual msg : Str) (j : Nat) (p1 p2 q1 q2 q3 q4 q5 q6 r1 r2 r3 r4 : Pos) (cc : Addr),
    K.lookup fI = some ⟨oc, od, .func (ksFn "__init__" qual (eA f p1 p2) (eB f msg j q1 q2 q3 q4 q5 q6 r1 r2 r3 r4) (eS f) .none .none doc pm an (.ref cda) ct cc), osl⟩ ∧ codeIn K (.ref cda) qual = true ∧ (q3.endLine == q5.line) = true ∧
    (∃ ccl cdd vs ccs file tf, K.lookup cda = some ⟨ccl, cdd, .fields vs, ccs⟩ ∧ vs[2]? = some (.str file tf) ∧ ((prog.main.file : Str) == file) = true) ∧
    ∃ cl cld csl, K.lookup cc = some ⟨cl, cld, .cell (some (.ref C)), csl⟩

/-- what its __init__ leaves of a fresh exception at x -/
structure SupEnd (h h' : Heap) (x C dx t1 : Addr) (f : Str) (v : Value) : Prop where
  keep : ∀ b o, b ≠ x → h.get? b = some o → h'.get? b = some o
  obj : h'.get? x = some { cls := .ref C, dict := some dx, data := .fields #[.ref t1, .none, .none, .none, .bool false, .none] }
  dbig : h.objs.size ≤ dx
  dne : dx ≠ x
  ns : h'.Ns1 dx (fun y => if y = f then some v else none)

section
open Builtin Builtin.ObjectAttr
variable {prog : Program} {w : World} {A : Around} {E : Value → Shared → Prop} {R : Result → Shared → Prop} {hp : Heap} {g : Array GenState} {d : Drawn} {t : Nat} {os : OsState}

/-- self.f = v on an exception without a dict -/
theorem osa_own {K : W.Frag} {name : Str} {tk : Tok} {v : Value} {x C : Addr} {fv : Array Value} {cd : ClassData} {bmB : List Value}
    (X : K.In hp) (hx : hp.get? x = some { cls := .ref C, data := .fields fv }) (hcd : W.clsIn K C = some cd) (hm : overB bmB cd.mro = true) (ne : cd.mro.isEmpty = false) (hps : ∀ self, refuseLoop self "__setattr__" bmB = pure ()) (hob : bmB.contains (.type "object") = true)
    (hh : cd.hasDict = true) (ha : W.findIn K (.ref C) name = some none)
    (hq : ∀ h' tk' dx, (∀ b o, b ≠ x → hp.get? b = some o → h'.get? b = some o) → hp.objs.size ≤ dx → dx ≠ x → h'.get? x = some { cls := .ref C, dict := some dx, data := .fields fv } →
      h'.Ns1 dx (fun y => if y = name then some v else none) → R (.ok (.ret .none)) ⟨h', g, d, tk', os⟩) :
    codeAny (model prog w) A (.call (.builtin "object.__setattr__") ⟨[.ref x, .str name tk, v], []⟩) R ⟨hp, g, d, t, os⟩ := by
  have I : W.InstAt hp x { cls := .ref C, data := .fields fv } C none := ⟨hx, rfl, rfl, trivial⟩
  have SF := F.store_object
  have hob2 : cd.mro.contains (.type "object") = true := (overB_has "object" _ hm).trans hob
  have hxs : x ≠ hp.objs.size := Nat.ne_of_lt (Heap.lt_size hx)
  have isObj : W.Looks (model prog w) hp (isInstance (.ref x) (.type "object")) true := I.type.andThen (W.looks_mroIn X (by unfold W.mroIn; rw [hcd, Option.bind_some, if_neg (by rw [ne]; decide), hob2]))
  refine codeAny_call_builtin SF.slot.plain SF.entry (@W.check_slot (model prog w) _ _ ⟨hp, g, d, t, os⟩ "object.__setattr__" "object" "__setattr__" (.ref x) [.str name tk, v] [] _ SF.kind SF.split isObj (SF.args (.ref x) (.str name tk) v) ?_)
  have hmr : W.Looks (model prog w) hp (mroOf (.ref C)) cd.mro := (W.looks_clsIn X hcd).andThen .now
  have noTaker : W.Looks (model prog w) hp (storeTaker? none) none := .now
  have hcls : W.Looks (model prog w) hp (classData C) cd := W.looks_clsIn X hcd
  rw [W.osa_eq, refuse_eq]
  refine wpAny_bind (wpAny_bind (I.type.at (wpAny_bind (hmr.at ?_))))
  rw [overB_pass _ (hps _) _ hm]
  refine wpAny_pure (wpAny_bind (I.type.at (wpAny_bind ((W.looks_findIn X ha).at (wpAny_bind (noTaker.at ?_))))))
  show wpAny _ _ (storeInOwnDict (.ref x) (.ref C) (.str name tk) name v false) _ _ _
  obtain ⟨nm, bs, mro, ns, qn, hd, sn, sb, ab, col, del⟩ := cd
  dsimp only at hh
  subst hh
  unfold storeInOwnDict ownDictForStores
  repeat (first | with_reducible refine store_in_new ?_ ?_ | with_reducible refine wpAny_loadPart_at hx ?_ | with_reducible refine hcls.at ?_ | wp_step)
  · exact ⟨_, #[], _, (Heap.get?_update_ne _ _ _ _ hxs.symm).trans (Heap.get?_push_at rfl rfl), rfl, fun e he => absurd he (by simp), fun _ => rfl⟩
  · intro h' tk' hn' hs
    have hx1 : (hp.push { cls := .type "dict", data := .dict #[] }).get? x = some { cls := .ref C, data := .fields fv } := Heap.get?_push_of_some _ hx
    refine hq h' tk' hp.objs.size (fun b o hb ho => ?_) (Nat.le_refl _) hxs.symm ?_ hn'
    · exact (hs.2 b (Nat.ne_of_lt (Heap.lt_size ho))).trans ((Heap.get?_update_ne _ _ _ _ hb).trans (Heap.get?_push_of_some _ ho))
    · exact (hs.2 x hxs).trans (Heap.get?_update_self _ hx1 rfl)

/-- the bound built-in __init__, called -/
theorem call_binit {nm q : Str} {C N : Addr} {bs bm bmB : List Value} {sn : List Str} {sub : List Value} {ab : Bool} {col : Option Bool} {dd : Option Addr} {k0 k1 k2 k3 k5 : Option Value} {B newId initId : String} {u e t0 : Addr} {rest : List Value} {Q : Value → Shared → Prop} (FB : ExcBaseFacts B newId initId bmB)
    (hC : hp.get? C = some (excClassObj nm q C N bs bm true sn sub ab col dd k0 k1 k2 k3 k5 newId)) (he : hp.get? e = some (excO C t0)) (hu : hp.get? u = some (kxs_mw initId e)) (hz : rest.length ≤ sizeLine)
    (hq : ∀ h' t1, (∀ b o, b ≠ e → hp.get? b = some o → h'.get? b = some o) → h'.get? e = some (excO C t1) → Q .none ⟨h', g, d, t, os⟩) :
    wpAny (model prog w) A (call (.ref u) rest) Q E ⟨hp, g, d, t, os⟩ := by
  refine wpAny_call (codeAny_of_tree ?_)
  show wpAny _ A.in1 (callAny (.ref u) ⟨rest, []⟩) _ _ _
  simp only [callAny]
  refine wpAny_bind (wpAny_load hu ?_)
  simp only [kxs_mw, show (Value.type "method-wrapper" == Value.type "method" || Value.type "method-wrapper" == Value.type "builtin_function_or_method" || Value.type "method-wrapper" == Value.type "method-wrapper") = true by decide, if_true]
  refine KFB.if_so (by decide) (wpAny_bind (check_bound_init FB.toExcCallFacts hC he rfl (wpAny_bind (wpAny_pure (wpAny_pure ⟨plainId_quiet FB.init.plain _, codeAny_builtin FB.initEntry ?_⟩)))))
  exact exc_init_tree (cls := .ref C) (t0 := t0) (dv := none) (c2 := .none) (c3 := .none) (b4 := .bool false) he hz fun h' k e' _ => hq h' _ k e'
end

section
variable {prog : Program} {w : World} {A : Around} {E : Value → Shared → Prop} {R : Result → Shared → Prop} {s : Shared} {K : Frag} {C fI : Addr} {f : Str} {B newId initId : String} {bmB : List Value} {mg mb : Str → Option Value}
theorem sup_init (BX : BaseX B newId initId bmB) (T : SupC K prog C fI f B newId initId bmB) {x t0 : Addr} {v : Value} (X : K.In s.heap) (hlim : s.heap.NoLimit) (G : s.heap.Ns mainGlobals mg) (Gb : s.heap.Ns builtinsNs mb) (hbb : ∀ x : Str, x ≠ "__name__" → mb x = bootBuiltins x)
    (hx : s.heap.get? x = some (excO C t0)) (hnx : K.lookup x = none) (hroom : A.depth < recursionLimit) (hq : ∀ h' tk dx t1, SupEnd s.heap h' x C dx t1 f v → R (.ok (.ret .none)) { s with heap := h', toks := tk }) :
    codeAny (model prog w) A (.call (.ref fI) ⟨[.ref x, v], []⟩) R s := by
  obtain ⟨oc, od, doc, pm, an, cda, ct, osl, qual, msg, j, p1, p2, q1, q2, q3, q4, q5, q6, r1, r2, r3, r4, cc, lkF, hcd, hline, ⟨ccl, cdd, vs, ccs, file, tf, lkC, hvs, hfile⟩, cl, cld, csl, lkE⟩ := T.fn
  obtain ⟨nm, q, N, bs, bm, sn, sub, ab, col, dd, k0, k1, k2, k3, k5, hC, hover, halong⟩ := T.cls
  have hcl : clsIn K C = some { name := nm, bases := bs, mro := .ref C :: bm, ns := N, qualname := q, hasDict := true, slotNames := sn, subclasses := sub, abstract := ab, collection := col, hasDel := false } := by unfold clsIn; rw [hC] <;> rfl
  have locals : ∀ y ∈ [(("self" : Str), Value.ref x), (f, v)], (eS f).names.lookup y.1 = some .local := by
    intro y hy
    rcases List.mem_cons.mp hy with rfl | hy
    · exact T.kS
    · rcases List.mem_cons.mp hy with rfl | hy
      · exact T.kF
      · cases hy
  have nocell : ∀ y ∈ (eS f).names, y.2 ≠ .cell := by
    intro y hy
    simp only [eS, List.mem_cons, List.not_mem_nil, or_false] at hy
    rcases hy with rfl | rfl | rfl | rfl <;> intro z <;> cases z
  have at_self : ([(("self" : Str), Value.ref x), (f, v)].reverse.lookup ("self" : Str)) = some (.ref x) := by
    show List.lookup ("self" : Str) [(f, v), (("self" : Str), Value.ref x)] = _
    rw [List.lookup_cons, show (("self" : Str) == f) = false from by
      have := T.nf
      rw [beq_eq_false_iff_ne] at this ⊢
      exact this.symm, List.lookup_cons, beq_self_eq_true]
  have at_f : ([(("self" : Str), Value.ref x), (f, v)].reverse.lookup f) = some v := by
    show List.lookup f [(f, v), (("self" : Str), Value.ref x)] = _
    rw [List.lookup_cons, beq_self_eq_true]
  refine ks_codeAny_call_defAt (binds := [(("self" : Str), Value.ref x), (f, v)]) hroom (X _ _ lkF) rfl hlim (codeRec_of X hcd) rfl (BindsTo.of_eq (T.bnd ..)) nocell locals (fun h1 hns k1 => ?_)
  have X1 : K.In h1 := X.keeps k1
  have hx1 := k1 _ _ hx
  have lt1 : s.heap.objs.size < h1.objs.size := hns.lt
  obtain ⟨hp, g, d, tk, os⟩ := s
  dsimp only at *
  have evSup : ∀ env : Env, eval (.Call (.Attribute (.Call (.Name "super" q1) [] [] q2) "__init__" q3) [.Constant (.str msg) j q4] [] q5) env = (do
      let ov ← attributeBase (.Call (.Name "super" q1) [] [] q2) "__init__" env (eval (.Call (.Name "super" q1) [] [] q2) env)
      standAt q3.atName
      let (f, first) ← holding [ov] (getMethod ov "__init__" (L2.plainOf (.Call (.Name "super" q1) [] [] q2) env))
      callWith q5 f first (backTo q5 (starEach [.Constant (.str msg) j q4] env)) []) := by
    intro env
    have e : ∀ ov, methodCall (.Call (.Name "super" q1) [] [] q2) "__init__" q3 q5 env ov 1 (backTo q5 (starEach [.Constant (.str msg) j q4] env)) [] = _ := fun ov => L2.mcall_line rfl hline
    show (do
      let ov ← attributeBase (.Call (.Name "super" q1) [] [] q2) "__init__" env (eval (.Call (.Name "super" q1) [] [] q2) env)
      standAt q3.atName
      methodCall (.Call (.Name "super" q1) [] [] q2) "__init__" q3 q5 env ov 1 (backTo q5 (starEach [.Constant (.str msg) j q4] env)) []) = _
    simp only [e]
  refine ks_wpAt_execs_cons (ks_wpAt_Expr_any (ks_wpAt_MethodCall (ks_wpAt_super_base (ar := { arg := "self", annotation := none, pos := p1 }) T.kU T.kC (by decide +kernel) rfl (X1 _ _ lkF) rfl rfl rfl (X1 _ _ lkC) rfl hvs hfile T.top ?_) (evSup _)))
  refine ks_loadName_global rfl T.kU (loadGlobal_builtin (G.keeps k1) (mg_none_of X G T.nsup) (Gb.keeps k1) ((hbb _ (by decide +kernel)).trans (by decide +kernel)) ⟨rfl, ?_⟩)
  refine wpAny_loadName_free rfl T.kC rfl ⟨_, X1 _ _ lkE, rfl⟩ (wpAny_loadName_local rfl T.kS hns at_self ?_)
  refine ks_wpAny_isType_cls (X1 _ _ hC) rfl ⟨rfl, ?_⟩
  have I1 : InstAt h1 x (excO C t0) C none := ⟨hx1, rfl, rfl, trivial⟩
  refine ks_wpAny_call_super (X1 _ _ hC) rfl hx1 rfl (fun c z => by cases z) (looks_mroIn X1 T.self) (fun h2 so2 k2 => ?_)
  have X2 : K.In h2 := X1.keeps k2
  have I2 : InstAt h2 x (excO C t0) C none := ⟨k2 _ _ hx1, rfl, rfl, trivial⟩
  refine kxs_getMethod BX.K so2 (looks_opaque X2 T.opq) (l₀ := .ref C :: bm) (fun A Q E s k q => wpAny_bind ((looks_clsIn X2 hcl) A _ E s k (wpAny_pure q))) (l := bm) (by simp [List.dropWhile_cons]) X2 halong (I2.type.andThen (looks_subIn X2 T.sB)) (ks_ne X2 I2 hcl) (by decide +kernel) ?_
  have k3 : ∀ b o, h2.get? b = some o → (h2.push (kxs_mw initId x)).get? b = some o := fun b o e => Heap.get?_push_of_some _ e
  have u3 : (h2.push (kxs_mw initId x)).get? h2.objs.size = some (kxs_mw initId x) := Heap.get?_push_at rfl rfl
  have X3 : K.In (h2.push (kxs_mw initId x)) := X2.keeps k3
  refine kxs_callWith (i := initId) (x := x) rfl (evalArgs_plain (Calls.spliced_cons (wpAny_Constant_str (k := j) (pos := q4) (Calls.spliced_nil ⟨u3, ?_⟩))))
  refine call_binit BX.F (X3 _ _ hC) (k3 _ _ I2.at_) u3 (by rw [sizeLine_eq]; show 1 ≤ 16777216; decide) (fun h4 t1 k4 hx4 => ?_)
  -- self.f = f
  have old4 : ∀ b o, b ≠ x → h1.get? b = some o → h4.get? b = some o := fun b o hb e => k4 b o hb (k3 b o (k2 b o e))
  have neL : hp.objs.size ≠ x := Nat.ne_of_gt (Heap.lt_size hx)
  have ns4 : h4.Ns hp.objs.size (fun y => [(("self" : Str), Value.ref x), (f, v)].reverse.lookup y) := by
    obtain ⟨oL, es, ep, hL, r⟩ := hns
    exact ⟨oL, es, ep, old4 _ _ neL hL, r⟩
  have X4 : K.In h4 := fun a o e => by
    have na : a ≠ x := fun z => by
      rw [z, hnx] at e
      cases e
    exact old4 a o na (X1 a o e)
  show PySem.wpAt _ _ _ (execs _ _) _ _ _
  refine ks_wpAt_execs_cons (ks_wpAt_Assign_Attr (wpAt_of_wpAny (wpAny_Name (wpAny_loadName_local rfl T.kF ns4 at_f (wpAny_Name (wpAny_loadName_local rfl T.kS ns4 at_self ?_) (by decide))) T.nd)))
  refine set_plain X4 (ox := excO C t1) (od := none) ⟨hx4, rfl, rfl, trivial⟩ T.sa ?_
  refine osa_own (bmB := bmB) X4 hx4 hcl (show overB bmB (.ref C :: bm) = true from hover) rfl BX.pass BX.obj rfl T.noN (fun h5 tk5 dx k5 dn dne hx5 hn5 => ?_)
  show PySem.wpAt _ _ _ (execs _ _) _ _ _
  refine wpAt_of_wpAny (wpAny_execs_nil (hq h5 _ dx t1 ⟨fun b o hb e => k5 b o hb (old4 b o hb (k1 b o e)), hx5, ?_, dne, hn5⟩))
  have z : hp.objs.size < h4.objs.size := ns4.lt
  exact Nat.le_of_lt (Nat.lt_of_lt_of_le z dn)
theorem one_fits (v : Value) : [v].length ≤ sizeLine := by
  rw [sizeLine_eq]
  show 1 ≤ 16777216
  decide
/-- a made exception at e, its own dict at d -/
structure SupMade (h h' : Heap) (e C d : Addr) (f : Str) (v : Value) : Prop where
  keep : ∀ b o, h.get? b = some o → h'.get? b = some o
  new : h.objs.size ≤ e
  obj : ∃ oe vs, h'.get? e = some oe ∧ oe.cls = .ref C ∧ oe.dict = some d ∧ oe.data = .fields vs ∧ vs[1]? = some .none
  dbig : h.objs.size ≤ d
  dne : d ≠ e
  ns : h'.Ns1 d (fun y => if y = f then some v else none)
theorem sup_made (BX : BaseX B newId initId bmB) (T : SupC K prog C fI f B newId initId bmB) {v : Value} (X : K.In s.heap) (hlim : s.heap.NoLimit) (G : s.heap.Ns mainGlobals mg) (Gb : s.heap.Ns builtinsNs mb) (hbb : ∀ x : Str, x ≠ "__name__" → mb x = bootBuiltins x)
    (hroom : A.depth + 1 < recursionLimit) (hq : ∀ h' tk e d, SupMade s.heap h' e C d f v → R (.ok (.ret (.ref e))) { s with heap := h', toks := tk }) :
    codeAny (model prog w) A (.call (.ref C) ⟨[v], []⟩) R s := by
  obtain ⟨nm, q, N, bs, bm, sn, sub, ab, col, dd, k0, k1, k2, k3, k5, hC, hover, halong⟩ := T.cls
  obtain ⟨hp, g, dr, tk, os⟩ := s
  have k : ∀ b o, hp.get? b = some o → ((hp.push (kdv_tup [v])).push (excO C hp.objs.size)).get? b = some o := fun b o e => Heap.get?_push_of_some _ (Heap.get?_push_of_some _ e)
  have hget : ((hp.push (kdv_tup [v])).push (excO C hp.objs.size)).get? (hp.objs.size + 1) = some (excO C hp.objs.size) := by heap_get
  have hnx : K.lookup (hp.objs.size + 1) = none := by
    cases e : K.lookup (hp.objs.size + 1) with
    | none => rfl
    | some o =>
      exact absurd (Nat.lt_of_succ_lt (Heap.lt_size (show hp.get? (hp.objs.size + 1) = some o from X _ _ e))) (Nat.lt_irrefl _)
  refine call_own BX.F (fun Y => overB_has Y bm hover) (X _ _ hC) (looks_findIn X T.iC) (fun self => bind_fn X self T.tC) (one_fits v) ?_
  refine sup_init (s := ⟨(hp.push (kdv_tup [v])).push (excO C hp.objs.size), g, dr, tk, os⟩) BX T (X.keeps k) (hlim.keeps k) (G.keeps k) (Gb.keeps k) hbb hget hnx (show A.depth + 1 < recursionLimit from hroom) fun h' tk' dx t1 ⟨k', hx, dn, dne, hns⟩ => ?_
  have old : ∀ b o, hp.get? b = some o → h'.get? b = some o := fun b o e => k' b o (Nat.ne_of_lt (Nat.lt_succ_of_lt (Heap.lt_size e))) (k b o e)
  have z : hp.objs.size + 1 + 1 ≤ dx := by
    have y := dn
    simp only [Heap.size_push] at y
    exact y
  exact ⟨rfl, hq h' tk' (hp.objs.size + 1) dx ⟨old, Nat.le_succ _, ⟨_, _, hx, rfl, rfl, rfl, rfl⟩, Nat.le_trans (Nat.le_add_right _ 2) z, dne, hns⟩⟩
end
end Pw
namespace Pw
open PySem PySem.Spec PyProof.Rows L2
theorem relO_one {v : V} {v' : Value} {n : Str} (r : RelV v v') (y : Str) : RelO (List.lookup y [(n, v)]) (if y = n then some v' else none) := by
  by_cases e : y = n
  · rw [if_pos e, List.lookup_cons, e, beq_self_eq_true]
    exact r
  · rw [if_neg e, List.lookup_cons, beq_eq_false_iff_ne.mpr e]
    trivial
section
variable {X : Cx} {C fI : Addr} {f : Str} {B newId initId : String} {bmB : List Value}
/-- x(e): a new exception of the class at C, whose dict d holds f = e -/
def tMkSup (C : Addr) (f : Str) (ta : TA) : L2.St → Hp → XK → Prop := fun σ H Q => ta σ H fun vs H1 => ∃ v, vs = [v] ∧ ∀ d, H1 d = none → Q (.ref C) (some d) (upd H1 d (.xd [(f, v)]))
theorem pmk_sup {x : Str} {a : Expr} {ta : TA} {p pos : Pos} {k : Nat} (BX : BaseX B newId initId bmB) (T : SupC X.K X.prog C fI f B newId initId bmB) (gC : X.mg x = some (.ref C)) (hr : Room k X.A) (ha : PA X [a] ta) (hg : Gl X x) (hdb : (x == ("__debug__" : Str)) = false := by decide)
    (he : starEach (a :: []) X.env = (false, eval a X.env) :: starEach [] X.env := by rfl) (hpl : (backTo pos (starEach [] X.env)).any (·.1) = false := by rfl) :
    PMk X (.Call (.Name x p) [a] [] pos) (tMkSup C f ta) := by
  intro pins s σ H Q I h
  refine wpAny_Call_Name_kw (ld_glob I hg gC ?_ hdb)
  refine PySem.W.callWith_K (h₀ := X.base) I.ok.mod.kin T.keep (thn (ha.run pos pins s σ H _ I h) fun us s1 hh => ?_) he hpl
  obtain ⟨vs, H1, I1, r1, v, rfl, q1⟩ := hh
  refine ⟨I1.kIn, ?_⟩
  obtain ⟨v', rfl, rv⟩ : ∃ v', us = [v'] ∧ RelV v v' := by
    cases r1 with
    | cons rv rn =>
      cases rn
      exact ⟨_, rfl, rv⟩
  show wpAny _ _ (call (.ref C) [v']) _ _ _
  have hlim := I1.nolimit
  obtain ⟨mb, Gb, hbb⟩ := I1.ok.mod.blt
  have kb := I1.bk
  have Gg := I1.ok.mod.glob
  have KX := I1.kIn
  have dep := hr.dp
  obtain ⟨hp, g, dr, tk, os⟩ := s1
  refine wpAny_call (sup_made (s := ⟨hp, g, dr, tk, os⟩) (mg := X.mg) (mb := mb) BX T KX hlim (Gg.keeps kb) (Gb.keeps kb) hbb (by show X.A.depth + 1 < recursionLimit; omega) fun h' tk' e d M => ?_)
  show MkP X pins σ Q (.ref e) ⟨h', g, dr, tk', os⟩
  obtain ⟨oe, fv, hoe, hc, hd, hdat, h1⟩ := M.obj
  obtain ⟨G', g1, g2⟩ := restrict h' fun b => decide (b ≠ e)
  have gk : ∀ b, b ≠ e → G'.get? b = h'.get? b := fun b hb => g1 b (decide_eq_true hb)
  have ge : G'.get? e = none := g2 e (by simp)
  have old : ∀ b o, hp.get? b = some o → G'.get? b = some o := fun b o q => (gk b (Nat.ne_of_lt (Nat.lt_of_lt_of_le (Heap.lt_size q) M.new))).trans (M.keep b o q)
  have ob : ObjOk X.prog X.w (upd H1 d (.xd [(f, v)])) G' d (.xd [(f, v)]) := ⟨_, M.ns.at (fun o q => (gk d M.dne).trans q), relO_one rv⟩
  have J : Inv X pins σ (upd H1 d (.xd [(f, v)])) ⟨G', g, dr, tk', os⟩ := I1.laid (t' := tk') old M.dbig ob
  refine ⟨e, oe, fv, ⟨G', g, dr, tk', os⟩, _, .ref C, some d, rfl, J, fun b o q => ?_, ge, hoe, ⟨hc, hd⟩, hdat, h1, ?_, rfl, I1.bare, raises_own T.exC T.tyC, q1 d (I1.hok.fresh M.dbig)⟩
  · by_cases hb : b = e
    · rw [hb] at q
      cases ge.symm.trans q
    · exact (gk b hb).symm.trans q
  · rw [upd_ne (Ne.symm M.dne)]
    exact I1.hok.fresh M.new
end
end Pw

/-! ## Part D: repr of data; rules of several kinds joined; the heap -/
namespace Pw
open PySem PySem.Spec PyProof.Rows L2

/-! ### repr -/
def rReprD (K : PySem.W.Frag) : List V → Hp → VK → Prop := fun xs H Q => ∃ x d, xs = [x] ∧ Dp K H x d ∧ d.showable = true ∧ d.hasDict = false ∧ d.depth ≤ 64 ∧ d.shown.length ≤ sizeLine ∧ Q (.str d.shown) H
theorem call_reprD {X : Cx} (hg : X.A.guards = some []) (hu : X.A.units + 66 < cLine) : CallR X (.builtin "repr") (rReprD X.K) := by
  rintro pins s σ H xs us Q I r ⟨x, d, rfl, hd, hs, hn, hdp, hz, q⟩
  obtain ⟨u, rfl, ru⟩ := vals1 r
  cases hd with
  | non =>
    cases (show u = Value.none from ru)
    exact PySem.P.repr_of_none ⟨.str _, H, I.tok _, ⟨_, rfl⟩, by simpa only [PyData.shown] using q⟩
  | bl b =>
    cases (show u = Value.bool b from ru)
    exact PySem.P.repr_of_bool ⟨.str _, H, I.tok _, ⟨_, rfl⟩, by simpa only [PyData.shown] using q⟩
  | int i =>
    obtain ⟨t, rfl⟩ := ru
    exact PySem.P.repr_of_int (by simpa [PyData.showable] using hs) ⟨.str _, H, I.tok _, ⟨_, rfl⟩, by simpa only [PyData.shown] using q⟩
  | str y =>
    obtain ⟨t, rfl⟩ := ru
    exact PySem.P.repr_of_str ⟨.str _, H, I.tok _, ⟨_, rfl⟩, by simpa only [PyData.shown] using q⟩ (by simpa only [PyData.shown] using hz)
  | lst h1 h2 =>
    have hr := Dp.reads I _ _ _ (Dp.lst h1 h2) ru
    obtain ⟨as, hr⟩ := hr
    cases ru
    exact PySem.repr_of_reads' hr hs (fun e => by rw [hn] at e; cases e) hg (by omega) (fun _ _ e => e) (fun h' t tk k => ⟨.str _, H, I.kept k, ⟨_, rfl⟩, q⟩) hz
  | tup h1 h2 =>
    have hr := Dp.reads I _ _ _ (Dp.tup h1 h2) ru
    obtain ⟨as, hr⟩ := hr
    cases ru
    exact PySem.repr_of_reads' hr hs (fun e => by rw [hn] at e; cases e) hg (by omega) (fun _ _ e => e) (fun h' t tk k => ⟨.str _, H, I.kept k, ⟨_, rfl⟩, q⟩) hz
end Pw

/-! ## Part E: operators by all their kinds, and how readings are answered -/
namespace Pw
open PySem PySem.Spec PyProof.Rows L2

/-! ### operators -/
def kAdd (K : PySem.W.Frag) : R2 := fun x y H Q => (∃ i j, x = .int i ∧ y = .int j ∧ Q (.int (i + j)) H) ∨ (∃ i j, x = .str i ∧ y = .str j ∧ i.length + j.length ≤ sizeLine ∧ Q (.str (i ++ j)) H) ∨ rCat x y H Q ∨ rCatT K x y H Q
def kMul : R2 := fun x y H Q => rI CMul (fun i j => .int (i * j)) x y H Q ∨ rI CMulW (fun i j => .int (i * j)) x y H Q ∨ rRep x y H Q
def kFd : R2 := rI CDivW fun i j => .int (i / j)
def kMod : R2 := rI (fun _ j => 0 < j) fun i j => .int (i % j)
def kPow : R2 := rI CPow fun i j => .int (i ^ j.toNat)
def kSub : R2 := rI0 fun i j => .int (i - j)
def kLt : R2 := fun x y H Q => rI0 (fun i j => .bl (decide (i < j))) x y H Q ∨ (∃ i j, x = .str i ∧ y = .str j ∧ Q (.bl (decide (i.cps.toList < j.cps.toList))) H)
def kLe : R2 := fun x y H Q => rI0 (fun i j => .bl (decide (i ≤ j))) x y H Q ∨ (∃ i j, x = .str i ∧ y = .str j ∧ Q (.bl (!decide (j.cps.toList < i.cps.toList))) H)
def kGt : R2 := fun x y H Q => rI0 (fun i j => .bl (decide (j < i))) x y H Q ∨ (∃ i j, x = .str i ∧ y = .str j ∧ Q (.bl (decide (j.cps.toList < i.cps.toList))) H)
def kGe : R2 := fun x y H Q => rI0 (fun i j => .bl (decide (j ≤ i))) x y H Q ∨ (∃ i j, x = .str i ∧ y = .str j ∧ Q (.bl (!decide (i.cps.toList < j.cps.toList))) H)
def kEq (K : PySem.W.Frag) : R2 := fun x y H Q => rEq x y H Q ∨ rEqD K x y H Q
def kNe (K : PySem.W.Frag) : R2 := fun x y H Q => rNe x y H Q ∨ rNeD K x y H Q
def kIs : R2 := fun x y H Q => (y = .non ∧ Q (.bl (decide (x = .non))) H) ∨ rIsB x y H Q
def kIsNot : R2 := fun x y H Q => (y = .non ∧ Q (.bl (!decide (x = .non))) H) ∨ rNotB x y H Q
section
variable {X : Cx}
theorem o_add (K : PySem.W.Frag) (hK : X.K = K := by rfl) : OpR X (binaryOp .Add) (kAdd K) := by subst hK; exact op_add.or (op_add_str.or (op_cat.or op_catT))
theorem o_mul : OpR X (binaryOp .Mult) kMul := op_mul.or (op_mulW.or op_rep)
theorem o_fd : OpR X (binaryOp .FloorDiv) kFd := op_fdivW
theorem o_mod : OpR X (binaryOp .Mod) kMod := op_mod
theorem o_pow : OpR X (binaryOp .Pow) kPow := op_pow
theorem o_sub : OpR X (binaryOp .Sub) kSub := op_sub
theorem o_lt : OpR X (compareOp .Lt) kLt := op_lt.or op_lt_str
theorem o_le : OpR X (compareOp .LtE) kLe := op_le.or op_le_str
theorem o_gt : OpR X (compareOp .Gt) kGt := op_gt.or op_gt_str
theorem o_ge : OpR X (compareOp .GtE) kGe := op_ge.or op_ge_str
theorem o_eq (K : PySem.W.Frag) (hu : X.A.units + 64 < cLine) (hK : X.K = K := by rfl) : OpR X (compareOp .Eq) (kEq K) := by subst hK; exact op_eq.or (op_eqD hu)
theorem o_ne (K : PySem.W.Frag) (hu : X.A.units + 64 < cLine) (hK : X.K = K := by rfl) : OpR X (compareOp .NotEq) (kNe K) := by subst hK; exact op_ne.or (op_neD hu)
theorem o_is : OpR X (compareOp .Is) kIs := op_isN.or op_isBl
theorem o_isnot : OpR X (compareOp .IsNot) kIsNot := op_notN.or op_notBl
end
/-! ### calls of built-ins -/
def kLen (K : PySem.W.Frag) : List V → Hp → VK → Prop := fun xs H Q => (∃ p ys, xs = [.ref p] ∧ (SqL K H p ys ∨ SqT K H p ys) ∧ Q (.int ys.length) H) ∨ (∃ z, xs = [.str z] ∧ z.length ≤ sizeLine ∧ Q (.int z.length) H)
def kInt : List V → Hp → VK → Prop := fun xs H Q => ((∃ i, xs = [.int i] ∧ Q (.int i) H) ∨ ∃ k, xs = [.bl k] ∧ Q (.int (if k then 1 else 0)) H) ∨ ∃ a n, xs = [.str a] ∧ PySem.intText? a = some n ∧ a.length ≤ 640 ∧ Q (.int n) H
def kAbs : List V → Hp → VK → Prop := fun xs H Q => ∃ i, xs = [.int i] ∧ Q (.int (if i < 0 then -i else i)) H
def kMax2 : List V → Hp → VK → Prop := fun xs H Q => ∃ i j, xs = [.int i, .int j] ∧ Q (.int (if j > i then j else i)) H
def kMin2 : List V → Hp → VK → Prop := fun xs H Q => ∃ i j, xs = [.int i, .int j] ∧ Q (.int (if j < i then j else i)) H
theorem c_abs {X : Cx} : CallR X (.builtin "abs") kAbs := call_abs
theorem c_max2 {X : Cx} (hc : X.calm = true) : CallR X (.builtin "max") kMax2 := call_max2 hc
theorem c_min2 {X : Cx} (hc : X.calm = true) : CallR X (.builtin "min") kMin2 := call_min2 hc
theorem c_len {X : Cx} (K : PySem.W.Frag) (hK : X.K = K := by rfl) : CallR X (.builtin "len") (kLen K) := by subst hK; exact call_len_seq.or call_len_str
theorem c_repr {X : Cx} (K : PySem.W.Frag) (hg : X.A.guards = some []) (hu : X.A.units + 66 < cLine) (hK : X.K = K := by rfl) : CallR X (.builtin "repr") (rReprD K) := by subst hK; exact call_reprD hg hu
theorem ixA {X : Cx} (K : PySem.W.Frag) (hK : X.K = K := by rfl) : IxR X (rIx K) := by subst hK; exact ix_seq
theorem c_int {X : Cx} : CallR X (.type "int") kInt := call_int1.or call_int_str

/-! ### the heap grows; a die may roll -/
abbrev Ext (H H' : Hp) : Prop := ∀ a o, H a = some o → H' a = some o
/-- a list of three ints: it may be a die -/
def dieO : HO → Bool
  | .lst [.int _, .int _, .int _] => true
  | _ => false
abbrev ExtR (H H' : Hp) : Prop := ∀ a o, dieO o = false → H a = some o → H' a = some o
theorem Ext.refl {H : Hp} : Ext H H := fun _ _ h => h
theorem Ext.trans {H H' H'' : Hp} (h : Ext H H') (h' : Ext H' H'') : Ext H H'' := fun a o e => h' a o (h a o e)
theorem Ext.r {H H' : Hp} (h : Ext H H') : ExtR H H' := fun a o _ e => h a o e
theorem ExtR.refl {H : Hp} : ExtR H H := fun _ _ _ h => h
theorem ExtR.trans {H H' H'' : Hp} (h : ExtR H H') (h' : ExtR H' H'') : ExtR H H'' := fun a o n e => h' a o n (h a o n e)
theorem ext_upd {H : Hp} {p : Addr} {o : HO} (h : H p = none) : Ext H (upd H p o) := fun a u e => by
  rw [upd_ne (ne_of_none e h)]
  exact e
theorem extR_die {H : Hp} {p : Addr} {a b c a' b' c' : Int} (h : H p = some (.lst [.int a, .int b, .int c])) : ExtR H (upd H p (.lst [.int a', .int b', .int c'])) := fun q u n e => by
  rw [upd_ne (ne_of e h (by rintro rfl; cases n))]
  exact e
/-- all but the object at d stands -/
abbrev ExtD (d : Addr) (H H' : Hp) : Prop := ∀ a o, a ≠ d → H a = some o → H' a = some o
def Die (H : Hp) (d : Addr) : Prop := ∃ a b c : Int, 0 ≤ a ∧ H d = some (.lst [.int a, .int b, .int c])
theorem Ext.d {d : Addr} {H H' : Hp} (h : Ext H H') : ExtD d H H' := fun a o _ e => h a o e
theorem ExtD.refl {d : Addr} {H : Hp} : ExtD d H H := fun _ _ _ h => h
theorem ExtD.trans {d : Addr} {H H' H'' : Hp} (h : ExtD d H H') (h' : ExtD d H' H'') : ExtD d H H'' := fun a o n e => h' a o n (h a o n e)
theorem ExtD.r {d : Addr} {H H' : Hp} (h : ExtD d H H') (hd : Die H d) : ExtR H H' := fun a o n e => by
  refine h a o ?_ e
  rintro rfl
  obtain ⟨x, y, z, _, e2⟩ := hd
  rw [e] at e2
  cases e2
  cases n
theorem extD_upd {d : Addr} {H : Hp} {o : HO} : ExtD d H (upd H d o) := fun a u n e => by
  rw [upd_ne n]
  exact e
theorem Die.ext {H H' : Hp} {d : Addr} (h : Die H d) (x : Ext H H') : Die H' d := by
  obtain ⟨a, b, c, h1, h2⟩ := h
  exact ⟨a, b, c, h1, x _ _ h2⟩
theorem Die.ne {H : Hp} {d p : Addr} (h : Die H d) (hp : H p = none) : p ≠ d := by
  obtain ⟨a, b, c, _, h2⟩ := h
  rintro rfl
  rw [hp] at h2
  cases h2
theorem Die.neL {H : Hp} {d p : Addr} {o : HO} (h : Die H d) (hp : H p = some o) (n : dieO o = false) : p ≠ d := by
  obtain ⟨a, b, c, _, h2⟩ := h
  rintro rfl
  rw [hp] at h2
  cases h2
  cases n
theorem sqL_D {d : Addr} {K : PySem.W.Frag} {H H' : Hp} {a : Addr} {xs : List V} (x : ExtD d H H') (h : SqL K H a xs) (n : a ≠ d) : SqL K H' a xs := by
  rcases h with (h | ⟨o, h⟩) | h
  · exact .inl (.inl (x _ _ n h))
  · exact .inl (.inr ⟨o, x _ _ n h⟩)
  · exact .inr h
theorem sqT_ext {K : PySem.W.Frag} {H H' : Hp} {a : Addr} {xs : List V} (x : ExtR H H') (h : SqT K H a xs) : SqT K H' a xs := by
  rcases h with (h | ⟨o, h⟩) | h
  · exact .inl (.inl (x _ _ rfl h))
  · exact .inl (.inr ⟨o, x _ _ rfl h⟩)
  · exact .inr h
theorem sqL_ext {K : PySem.W.Frag} {H H' : Hp} {a : Addr} {xs : List V} (x : ExtR H H') (h : SqL K H a xs) (n : dieO (.lst xs) = false) : SqL K H' a xs := by
  rcases h with (h | ⟨o, h⟩) | h
  · exact .inl (.inl (x _ _ n h))
  · exact .inl (.inr ⟨o, x _ _ rfl h⟩)
  · exact .inr h

def ab (i : Int) : Int := if i < 0 then -i else i
theorem ab_nonneg (i : Int) : 0 ≤ ab i := by unfold ab; split <;> omega
theorem units66 {k : Nat} {A : Around} (hr : Room k A) : A.units + 66 < cLine := by
  have := hr.un
  omega
theorem fitsB {n : Nat} (h : Nat.ble n 1000000 = true) : n ≤ sizeLine := by
  rw [sizeLine_eq]
  exact Nat.le_trans (Nat.le_of_ble_eq_true h) (by decide)
/-- a new list, a new tuple of these -/
def newL (Q : VK) (xs : List V) (H : Hp) : Prop := xs.length ≤ sizeLine ∧ ∀ p, H p = none → Q (.ref p) (upd H p (.lst xs))
def newT (Q : VK) (xs : List V) (H : Hp) : Prop := xs.length ≤ sizeLine ∧ ∀ p, H p = none → Q (.ref p) (upd H p (.tup xs))
/-! ### answers: statements -/
section
variable {D : Ends} {σ : L2.St} {H : Hp} {te ta tb tc : TE} {t u : TS} {c c' : TT} {g : TG} {i j k : Nat} {K : PySem.W.Frag} {Q : VK} {R : Bool → Hp → Prop} {QA : List V → Hp → Prop} {QS : L2.St → Hp → Prop} {v w x y : V} {vs : List V} {tas : TA}
theorem w_seq (h : t { D with nx := u D } σ H) : tSeq t u D σ H := h
/-- what comes behind, by a name -/
theorem w_seqH (h : ∀ N : L2.St → Hp → Prop, N = u D → t { D with nx := N } σ H) : tSeq t u D σ H := h _ rfl
theorem w_hide {tx : TE} (h : ∀ C : VK, C = Q → tx σ H C) : tx σ H Q := h _ rfl
theorem w_hideT {tx : TT} (h : ∀ C : Bool → Hp → Prop, C = R → tx σ H C) : tx σ H R := h _ rfl
theorem w_next (h : D.nx σ H) : tNext D σ H := h
theorem w_asg (h : te σ H fun x H1 => g x σ H1 D.nx) : tAsg te g D σ H := h
theorem w_name (h : QS (σ.set i (some v)) H) : gName i v σ H QS := h
theorem w_gsub {to ti : TE} {ts : TSet} (h : to σ H fun o H1 => ti σ H1 fun i H2 => ts o i v H2 fun H3 => QS σ H3) : gSub to ti ts v σ H QS := h
theorem w_setL {p : Addr} {xs : List V} {n : Int} {j : Nat} {QH : Hp → Prop} (hp : H p = some (.lst xs)) (hj : ixN xs.length n = some j) (h : QH (upd H p (.lst (xs.set j v)))) : rSetL (.ref p) (.int n) v H QH := ⟨p, xs, n, j, rfl, rfl, hp, hj, h⟩
theorem w_ifS (h : c σ H fun b H1 => if b = true then t D σ H1 else u D σ H1) : tIfS c t u D σ H := h
theorem w_ret (h : te σ H D.rt) : tRet te D σ H := h
theorem w_drop (h : te σ H fun _ H1 => D.nx σ H1) : tDrop te D σ H := h
/-! tests -/
theorem w_test (h : te σ H fun x H' => ∃ k, x = .bl k ∧ R k H') : tTest te σ H R := h
theorem w_tB (h : te σ H fun x H' => ∃ k, x = .bl k ∧ R k H') : tB te σ H R := h
theorem w_bl {b : Bool} (h : R b H) : ∃ k, V.bl b = .bl k ∧ R k H := ⟨b, rfl, h⟩
theorem w_and (h : c σ H fun b H1 => if b = true then c' σ H1 R else R false H1) : tAnd c c' σ H R := h
theorem w_or (h : c σ H fun b H1 => if b = true then R true H1 else c' σ H1 R) : tOr c c' σ H R := h
theorem w_not (h : c σ H fun b H1 => R (!b) H1) : tNot c σ H R := h
theorem w_andV (h : ta σ H fun x H1 => ∃ b, x = .bl b ∧ if b = true then tb σ H1 Q else Q (.bl false) H1) : tAndV ta tb σ H Q := h
theorem w_orV (h : ta σ H fun x H1 => ∃ b, x = .bl b ∧ if b = true then Q (.bl true) H1 else tb σ H1 Q) : tOrV ta tb σ H Q := h
theorem w_notV (h : ta σ H fun x H1 => ∃ b, x = .bl b ∧ Q (.bl (!b)) H1) : tNotV ta σ H Q := h
theorem w_bV {b : Bool} {P : Bool → Prop} (h : P b) : ∃ k, V.bl b = .bl k ∧ P k := ⟨b, rfl, h⟩
theorem w_ifE (h : c σ H fun b H1 => if b = true then ta σ H1 Q else tb σ H1 Q) : tIf c ta tb σ H Q := h
theorem w_iteD {p : Prop} [Decidable p] {A B : Prop} (h1 : p → A) (h2 : ¬ p → B) : if decide p = true then A else B := by
  by_cases h : p
  · rw [if_pos (decide_eq_true h)]; exact h1 h
  · rw [if_neg (by simpa using h)]; exact h2 h
theorem w_iteN {b : Bool} {A B : Prop} (h : if b = true then B else A) : if (!b) = true then A else B := by
  cases b <;> exact h
theorem w_iteT {A B : Prop} (h : A) : if true = true then A else B := by rw [if_pos rfl]; exact h
theorem w_iteF {A B : Prop} (h : B) : if false = true then A else B := by rw [if_neg Bool.false_ne_true]; exact h
theorem w_iteG {b : Bool} {A B : Prop} (h : if b = true then A else B) : if b = true then A else B := h
theorem w_iteTe {b : Bool} {A B : Prop} (e : b = true) (h : A) : if b = true then A else B := by rw [if_pos e]; exact h
theorem w_iteFe {b : Bool} {A B : Prop} (e : b = false) (h : B) : if b = true then A else B := by rw [if_neg (by rw [e]; exact Bool.false_ne_true)]; exact h
theorem w_iteDt {p : Prop} [Decidable p] {A B : Prop} (e : p) (h : A) : if decide p = true then A else B := by rw [if_pos (decide_eq_true e)]; exact h
theorem w_iteDf {p : Prop} [Decidable p] {A B : Prop} (e : ¬ p) (h : B) : if decide p = true then A else B := by rw [if_neg (by simpa using e)]; exact h
theorem w_iteB {b : Bool} {A B : Prop} (h1 : b = true → A) (h2 : b = false → B) : if b = true then A else B := by
  cases b
  · rw [if_neg Bool.false_ne_true]; exact h2 rfl
  · rw [if_pos rfl]; exact h1 rfl
/-! expressions -/
theorem w_var (e : σ[i]? = some (some v)) (h : Q v H) : tVar i σ H Q := ⟨v, e, h⟩
theorem w_c (h : Q v H) : tC v σ H Q := h
theorem w_op {r : R2} (h : ta σ H fun x H1 => tb σ H1 fun y H2 => r x y H2 Q) : tOp r ta tb σ H Q := h
theorem w_un {r : V → Hp → VK → Prop} (h : ta σ H fun x H1 => r x H1 Q) : tUn r ta σ H Q := h
theorem w_nil (h : QA [] H) : tNil σ H QA := h
theorem w_cons (h : ta σ H fun x H1 => tas σ H1 fun xs H2 => QA (x :: xs) H2) : tCons ta tas σ H QA := h
theorem w_tup (h : tas σ H fun xs H1 => newT Q xs H1) : tTup tas σ H Q := h
theorem w_lst (h : tas σ H fun xs H1 => newL Q xs H1) : tLst tas σ H Q := h
/-- a new object: its place, and that all else stands -/
theorem w_newL {xs : List V} (hl : Nat.ble xs.length 1000000 = true) (h : ∀ p H', H p = none → Ext H H' → H' p = some (.lst xs) → H' = upd H p (.lst xs) → Q (.ref p) H') : newL Q xs H :=
  ⟨fitsB hl, fun p hp => h p _ hp (ext_upd hp) upd_same rfl⟩
theorem w_newT {xs : List V} (hl : Nat.ble xs.length 1000000 = true) (h : ∀ p H', H p = none → Ext H H' → H' p = some (.tup xs) → H' = upd H p (.tup xs) → Q (.ref p) H') : newT Q xs H :=
  ⟨fitsB hl, fun p hp => h p _ hp (ext_upd hp) upd_same rfl⟩
theorem w_CB {r : List V → Hp → VK → Prop} (h : tas σ H fun vs H1 => r vs H1 Q) : tCB r tas σ H Q := h
theorem w_callS {sp : Sp} {E : L2.St → XK} (h : tas σ H fun vs H1 => sp vs H1 Q (E σ)) : tCallS sp E tas σ H Q := h
/-! operators -/
variable {a b : Int} {s z : Str}
theorem w_add_i (h : Q (.int (a + b)) H) : kAdd K (.int a) (.int b) H Q := .inl ⟨a, b, rfl, rfl, h⟩
theorem w_add_s (hl : s.length + z.length ≤ sizeLine) (h : Q (.str (s ++ z)) H) : kAdd K (.str s) (.str z) H Q := .inr (.inl ⟨s, z, rfl, rfl, hl, h⟩)
theorem w_sub (h : Q (.int (a - b)) H) : kSub (.int a) (.int b) H Q := ⟨a, b, rfl, rfl, h⟩
theorem w_mul_l (hl : -(2 ^ 64) < a ∧ a < 2 ^ 64) (h : Q (.int (a * b)) H) : kMul (.int a) (.int b) H Q := .inl ⟨a, b, rfl, rfl, .inl hl, h⟩
theorem w_mul_r (hl : -(2 ^ 64) < b ∧ b < 2 ^ 64) (h : Q (.int (a * b)) H) : kMul (.int a) (.int b) H Q := .inl ⟨a, b, rfl, rfl, .inr hl, h⟩
theorem w_mul_w (hl : CMulW a b) (h : Q (.int (a * b)) H) : kMul (.int a) (.int b) H Q := .inr (.inl ⟨a, b, rfl, rfl, hl, h⟩)
theorem w_fd (hl : CDivW a b) (h : Q (.int (a / b)) H) : kFd (.int a) (.int b) H Q := ⟨a, b, rfl, rfl, hl, h⟩
theorem w_mod (hl : 0 < b) (h : Q (.int (a % b)) H) : kMod (.int a) (.int b) H Q := ⟨a, b, rfl, rfl, hl, h⟩
theorem w_pow (hl : CPow a b) (h : Q (.int (a ^ b.toNat)) H) : kPow (.int a) (.int b) H Q := ⟨a, b, rfl, rfl, hl, h⟩
theorem w_fdL (h0 : 0 < b) (h1 : b.natAbs.log2 < 9000) (h : Q (.int (a / b)) H) : kFd (.int a) (.int b) H Q := ⟨a, b, rfl, rfl, ⟨h0, h1⟩, h⟩
theorem w_powL (h0 : 0 ≤ b) (h1 : b ≤ 1000000) (h2 : a.natAbs < 2 ^ 64) (h : Q (.int (a ^ b.toNat)) H) : kPow (.int a) (.int b) H Q := ⟨a, b, rfl, rfl, ⟨h0, h1, h2⟩, h⟩
theorem w_lt_i (h : Q (.bl (decide (a < b))) H) : kLt (.int a) (.int b) H Q := .inl ⟨a, b, rfl, rfl, h⟩
theorem w_le_i (h : Q (.bl (decide (a ≤ b))) H) : kLe (.int a) (.int b) H Q := .inl ⟨a, b, rfl, rfl, h⟩
theorem w_gt_i (h : Q (.bl (decide (b < a))) H) : kGt (.int a) (.int b) H Q := .inl ⟨a, b, rfl, rfl, h⟩
theorem w_ge_i (h : Q (.bl (decide (b ≤ a))) H) : kGe (.int a) (.int b) H Q := .inl ⟨a, b, rfl, rfl, h⟩
theorem w_eq_i (h : Q (.bl (decide (a = b))) H) : kEq K (.int a) (.int b) H Q := .inl ⟨rfl, by simpa using h⟩
theorem w_ne_i (h : Q (.bl (!decide (a = b))) H) : kNe K (.int a) (.int b) H Q := .inl ⟨rfl, by simpa using h⟩
theorem w_eq_s (h : Q (.bl (decide (s = z))) H) : kEq K (.str s) (.str z) H Q := .inl ⟨rfl, by simpa using h⟩
theorem w_ne_s (h : Q (.bl (!decide (s = z))) H) : kNe K (.str s) (.str z) H Q := .inl ⟨rfl, by simpa using h⟩
theorem w_eq_b {b b' : Bool} (h : Q (.bl (decide (b = b'))) H) : kEq K (.bl b) (.bl b') H Q := .inl ⟨rfl, by simpa using h⟩
theorem w_ne_b {b b' : Bool} (h : Q (.bl (!decide (b = b'))) H) : kNe K (.bl b) (.bl b') H Q := .inl ⟨rfl, by simpa using h⟩
theorem w_eq_is (h : Q (.bl false) H) : kEq K (.int a) (.str s) H Q := .inl ⟨rfl, by simpa using h⟩
theorem w_ne_is (h : Q (.bl true) H) : kNe K (.int a) (.str s) H Q := .inl ⟨rfl, by simpa using h⟩
theorem w_eq_si (h : Q (.bl false) H) : kEq K (.str s) (.int a) H Q := .inl ⟨rfl, by simpa using h⟩
theorem w_ne_si (h : Q (.bl true) H) : kNe K (.str s) (.int a) H Q := .inl ⟨rfl, by simpa using h⟩
theorem w_eq_v (hs : scal x y = true) (h : Q (.bl (decide (x = y))) H) : kEq K x y H Q := .inl ⟨hs, h⟩
theorem w_ne_v (hs : scal x y = true) (h : Q (.bl (!decide (x = y))) H) : kNe K x y H Q := .inl ⟨hs, h⟩
theorem w_eq_d {d e : PyData} (hd : Dp K H x d) (he : Dp K H y e) (sd : SeqAt.shaped d = true) (se : SeqAt.shaped e = true) (h : Q (.bl (PyData.eqv d e)) H) : kEq K x y H Q := .inr ⟨d, e, hd, he, sd, se, h⟩
theorem w_ne_d {d e : PyData} (hd : Dp K H x d) (he : Dp K H y e) (sd : SeqAt.shaped d = true) (se : SeqAt.shaped e = true) (h : Q (.bl (!PyData.eqv d e)) H) : kNe K x y H Q := .inr ⟨d, e, hd, he, sd, se, h⟩
theorem w_isN (h : Q (.bl (decide (x = .non))) H) : kIs x .non H Q := .inl ⟨rfl, h⟩
theorem w_isB {b b' : Bool} (h : Q (.bl (decide (b = b'))) H) : kIs (.bl b) (.bl b') H Q := .inr ⟨b, b', rfl, rfl, h⟩
theorem w_isnotN (h : Q (.bl (!decide (x = .non))) H) : kIsNot x .non H Q := .inl ⟨rfl, h⟩
theorem w_isnotB {b b' : Bool} (h : Q (.bl (!decide (b = b'))) H) : kIsNot (.bl b) (.bl b') H Q := .inr ⟨b, b', rfl, rfl, h⟩
theorem w_rU {f : Int → V} (h : Q (f a) H) : rU f (.int a) H Q := ⟨a, rfl, h⟩
theorem w_ixL {p : Addr} {xs : List V} (hs : SqL K H p xs) (e : atI xs a = some v) (h : Q v H) : rIx K (.ref p) (.int a) H Q := .inl ⟨p, xs, a, v, rfl, rfl, hs, e, h⟩
theorem w_ixT {p : Addr} {xs : List V} (hs : SqT K H p xs) (e : atI xs a = some v) (h : Q v H) : rIx K (.ref p) (.int a) H Q := .inr (.inl ⟨p, xs, a, v, rfl, rfl, hs, e, h⟩)
theorem w_ixS {c : Nat} (hz : s.length ≤ sizeLine) (e : atI s.cps.toList a = some c) (h : Q (.str ⟨#[c]⟩) H) : rIx K (.str s) (.int a) H Q := .inr (.inr ⟨s, a, c, rfl, rfl, hz, e, h⟩)
/-! built-ins -/
/-- the absolute value, as Python's abs tells it -/
theorem w_abs (h : Q (.int (ab a)) H) : kAbs [.int a] H Q := ⟨a, rfl, h⟩
theorem w_max2 (h : Q (.int (if b > a then b else a)) H) : kMax2 [.int a, .int b] H Q := ⟨a, b, rfl, h⟩
theorem w_min2 (h : Q (.int (if b < a then b else a)) H) : kMin2 [.int a, .int b] H Q := ⟨a, b, rfl, h⟩
theorem w_int_i (h : Q (.int a) H) : kInt [.int a] H Q := .inl (.inl ⟨a, rfl, h⟩)
theorem w_int_b {b : Bool} (h : Q (.int (if b then 1 else 0)) H) : kInt [.bl b] H Q := .inl (.inr ⟨b, rfl, h⟩)
theorem w_len_L {p : Addr} {xs : List V} (hs : SqL K H p xs) (h : Q (.int xs.length) H) : kLen K [.ref p] H Q := .inl ⟨p, xs, rfl, .inl hs, h⟩
theorem w_len_T {p : Addr} {xs : List V} (hs : SqT K H p xs) (h : Q (.int xs.length) H) : kLen K [.ref p] H Q := .inl ⟨p, xs, rfl, .inr hs, h⟩
theorem w_len_s (hz : s.length ≤ sizeLine) (h : Q (.int s.length) H) : kLen K [.str s] H Q := .inr ⟨s, rfl, hz, h⟩
theorem w_repr {d : PyData} (hd : Dp K H x d) (h1 : d.showable = true) (h2 : d.hasDict = false) (h3 : d.depth ≤ 64) (h4 : d.shown.length ≤ sizeLine) (h : Q (.str d.shown) H) : rReprD K [x] H Q := ⟨x, d, rfl, hd, h1, h2, h3, h4, h⟩
end
end Pw

/-! ## Part H: what the top has left, read off its run -/
namespace Pw
open PySem PySem.Spec PyProof.Rows L2 He

/-- the objects that the module's names reach -/
def asP (g : Addr → Option Obj) : Nat → List Addr
  | 0 => [mainGlobals, cStatics]
  | n + 1 => growD g (asP g n)
abbrev FnI : Type := Option (Str × Str × Arguments × FuncBody × Scope × Addr × List Str × Value × Value × Addr)
/-- a def that closes over names -/
def fnI (K : PySem.W.Frag) (p : Str × Option Str) : FnI := match K.lookup (fAd K p) with
  | some ⟨_, _, .func fd, _⟩ => some (fd.name, fd.qualname, fd.params, fd.body, fd.scope, fd.globals, fd.closure.map (·.1), fd.defaults, fd.kwdefaults, fd.builtins)
  | _ => none
/-- such a def as the text has it -/
structure InitD where
  at_ : Str × Option Str
  qual : Str
  params : Arguments
  body : List Stmt
  scope : Scope
def iniVal (qual : Str) (params : Arguments) (body : List Stmt) (scope : Scope) : FnI := some ("__init__", qual, params, .stmts body, scope, mainGlobals, ["__class__"], .none, .none, builtinsNs)
def InitD.val (d : InitD) : FnI := iniVal d.qual d.params d.body d.scope
abbrev AlP : Type := Bool × List FnW × List FnI
def obsP (fn : List DefD) (ini : List InitD) (ex : PySem.W.Frag → Bool) (K : PySem.W.Frag) : AlP := ((fn.all fun d => d.ok K) && ex K, fn.map (fun d => fnW K d.at_), ini.map fun d => fnI K d.at_)
def valP (fn : List DefD) (ini : List InitD) : AlP := (true, fn.map DefD.val, ini.map InitD.val)
def SaysP (fn : List DefD) (ini : List InitD) (ex : PySem.W.Frag → Bool) (K : PySem.W.Frag) : Prop := obsP fn ini ex K = valP fn ini
def obsPG (n : Nat) (fn : List DefD) (ini : List InitD) (ex : PySem.W.Frag → Bool) (g : Addr → Option Obj) : AlP := obsP fn ini ex (frG g (asP g n))
def hookP (n : Nat) (fn : List DefD) (ini : List InitD) (ex : PySem.W.Frag → Bool) : PySem.W.Hook where
  α := AlP
  obs := fun s => obsPG n fn ini ex s.heap.get?
  val := fun _ => valP fn ini
  says := fun _ h => ∃ K : PySem.W.Frag, K.In h ∧ SaysP fn ini ex K
  of := fun _ _ e => ⟨_, frG_in, e⟩
  keeps := fun _ _ _ ⟨K, hK, c⟩ k => ⟨K, PySem.W.Frag.In.keeps hK k, c⟩
theorem obsPG_eq {n : Nat} {fn : List DefD} {ini : List InitD} {ex : PySem.W.Frag → Bool} {g : Addr → Option Obj} {s : Shared} (h : ∀ a, g a = s.heap.get? a) : obsPG n fn ini ex g = (hookP n fn ini ex).obs s := by
  have e : g = s.heap.get? := funext h
  rw [e] <;> rfl
section
variable {fn : List DefD} {ini : List InitD} {ex : PySem.W.Frag → Bool} {K : PySem.W.Frag}
theorem SaysP.ex_ (c : SaysP fn ini ex K) : ex K = true := (ba (show ((fn.all fun d => d.ok K) && ex K) = true from congrArg (fun z : AlP => z.1) c)).2
theorem SaysP.def_ (c : SaysP fn ini ex K) (i : Nat) {d : DefD} (h : fn[i]? = some d) : ∃ fd, FunD K d.name d.qual d.params d.body d.scope (d.dvs K) (d.kws K) (fAd K d.at_) fd := by
  have c1 := (ba (show ((fn.all fun d => d.ok K) && ex K) = true from congrArg (fun z : AlP => z.1) c)).1
  have e : (fn.map fun d => fnW K d.at_)[i]? = (fn.map DefD.val)[i]? := congrArg (fun l : List FnW => l[i]?) (congrArg (fun z : AlP => z.2.1) c)
  rw [List.getElem?_map, List.getElem?_map, h] at e
  exact DefD.funD (Option.some.inj e) (List.all_eq_true.mp c1 d (List.mem_of_getElem? h))
theorem SaysP.ini_ (c : SaysP fn ini ex K) (i : Nat) {d : InitD} (h : ini[i]? = some d) : fnI K d.at_ = d.val := by
  have e : (ini.map fun d => fnI K d.at_)[i]? = (ini.map InitD.val)[i]? := congrArg (fun l : List FnI => l[i]?) (congrArg (fun z : AlP => z.2.2) c)
  rw [List.getElem?_map, List.getElem?_map, h] at e
  exact Option.some.inj e
end

/-! ### an exception class with its own __init__ -/
def supCls (K : PySem.W.Frag) (C : Addr) (newId initId : String) (bmB : List Value) : Bool := match K.lookup C with
  | some ⟨.type "type", _, .cls cd, sl⟩ => (match cd.mro, sl.toList with
    | .ref C' :: bm, [_, _, _, _, some (.builtin n), _] => C' == C && n == newId && cd.hasDict && !cd.hasDel && overB bmB bm && PySem.W.alongIn K "__init__" bm == some (some (.builtin initId))
    | _, _ => false)
  | _ => false
theorem supCls_ok {K : PySem.W.Frag} {C : Addr} {newId initId : String} {bmB : List Value} (q : supCls K C newId initId bmB = true) :
    ∃ nm q N bs bm sn sub ab col dd k0 k1 k2 k3 k5, K.lookup C = some (excClassObj nm q C N bs bm true sn sub ab col dd k0 k1 k2 k3 k5 newId) ∧ overB bmB bm = true ∧ PySem.W.alongIn K "__init__" bm = some (some (.builtin initId)) := by
  unfold supCls at q
  split at q
  · rename_i dd cd sl ho
    split at q
    · rename_i C' bm k0 k1 k2 k3 n k5 hm hs
      simp only [Bool.and_eq_true, beq_iff_eq, Bool.not_eq_true'] at q
      obtain ⟨⟨⟨⟨⟨rfl, rfl⟩, hdict⟩, hdel⟩, hov⟩, hal⟩ := q
      obtain ⟨nm, bs, mro, ns, qn, hd, sn, sub, ab, col, del⟩ := cd
      dsimp only at hm hdel hdict
      subst hm hdel hdict
      obtain ⟨l⟩ := sl
      simp only at hs
      subst hs
      exact ⟨nm, qn, ns, bs, bm, sn, sub, ab, col, dd, k0, k1, k2, k3, k5, ho, hov, hal⟩
    · cases q
  · cases q
def fnCell (K : PySem.W.Frag) (C fI : Addr) (file : Str) (qual : Str) : Bool := match K.lookup fI with
  | some ⟨_, _, .func fd, _⟩ => (match fd.closure, fd.code with
    | [(_, cc)], .ref cda => PySem.W.codeIn K (.ref cda) qual && (match K.lookup cda with
        | some ⟨_, _, .fields vs, _⟩ => (match (vs[2]? : Option Value) with
          | some (.str z _) => file == z
          | _ => false)
        | _ => false) && (match K.lookup cc with
        | some ⟨_, _, .cell (some (.ref c)), _⟩ => c == C
        | _ => false)
    | _, _ => false)
  | _ => false
def supB (K : PySem.W.Frag) (file x f qual : Str) (B newId initId : String) (bmB : List Value) : Bool :=
  let C := ga K x
  let fI := ma K C "__init__"
  supCls K C newId initId bmB && fnCell K C fI file qual &&
  decide (PySem.W.findIn K (.ref C) "__setattr__" = some (some (.builtin "object.__setattr__"))) && decide (PySem.W.findIn K (.ref C) f = some none) &&
  decide (PySem.W.findIn K (.ref C) "__init__" = some (some (.ref fI))) && decide (PySem.W.typeIn K (.ref fI) = some (.type "function")) && PySem.W.keepIn K (.ref C) &&
  decide (PySem.W.subIn K (.ref C) (.type "BaseException") = some true) && decide (PySem.W.typeIn K (.ref C) = some (.type "type")) && decide (PySem.W.subIn K (.ref C) (.type B) = some true) &&
  decide (PySem.W.mroIn K C (.ref C) = some true) && decide (PySem.W.nsIn K cStatics "thirdparty.any" = some none) && decide (PySem.W.nsIn K mainGlobals "super" = some none) &&
  decide (PySem.W.nsIn K mainGlobals x = some (some (.ref C))) && xfB K C
theorem fnCell_ok {K : PySem.W.Frag} {x : Str} {C : Addr} {file qual f msg : Str} {j : Nat} {p1 p2 q1 q2 q3 q4 q5 q6 r1 r2 r3 r4 : Pos} (hl : (q3.endLine == q5.line) = true)
    (e : fnI K (x, some "__init__") = iniVal qual (eA f p1 p2) (eB f msg j q1 q2 q3 q4 q5 q6 r1 r2 r3 r4) (eS f)) (c : fnCell K C (fAd K (x, some "__init__")) file qual = true) :
    ∃ (oc : Value) (od : Option Addr) (doc pm : Value) (an : Option Addr) (cda : Addr) (ct : Value) (osl : Array (Option Value)) (qual msg : Str) (j : Nat) (p1 p2 q1 q2 q3 q4 q5 q6 r1 r2 r3 r4 : Pos) (cc : Addr),
    K.lookup (fAd K (x, some "__init__")) = some ⟨oc, od, .func (PySem.W.ksFn "__init__" qual (eA f p1 p2) (eB f msg j q1 q2 q3 q4 q5 q6 r1 r2 r3 r4) (eS f) .none .none doc pm an (.ref cda) ct cc), osl⟩ ∧ PySem.W.codeIn K (.ref cda) qual = true ∧ (q3.endLine == q5.line) = true ∧
    (∃ ccl cdd vs ccs file' tf, K.lookup cda = some ⟨ccl, cdd, .fields vs, ccs⟩ ∧ vs[2]? = some (.str file' tf) ∧ (file == file') = true) ∧
    ∃ cl cld csl, K.lookup cc = some ⟨cl, cld, .cell (some (.ref C)), csl⟩ := by
  unfold fnI iniVal at e
  unfold fnCell at c
  cases q : K.lookup (fAd K (x, some "__init__")) with
  | none =>
    rw [q] at c
    cases c
  | some o =>
    obtain ⟨oc, od, dt, osl⟩ := o
    rw [q] at c e
    cases dt with
    | func fd =>
      obtain ⟨n1, n2, n3, n4, n5, n6, n7, n8, n9, n10, n11, n12, n13, n14, n15⟩ := fd
      simp only [Option.some.injEq, Prod.mk.injEq] at e
      obtain ⟨rfl, rfl, rfl, rfl, rfl, rfl, h7, rfl, rfl, rfl⟩ := e
      obtain ⟨cc, rfl⟩ : ∃ cc : Addr, n7 = [(("__class__" : Str), cc)] := by
        match n7, h7 with
        | [(y, cc)], h7 =>
          simp only [List.map_cons, List.map_nil, List.cons.injEq, and_true] at h7
          exact ⟨cc, by rw [h7]⟩
      cases n13 with
      | ref cda =>
        simp only [Bool.and_eq_true] at c
        obtain ⟨⟨c1, c2⟩, c3⟩ := c
        refine ⟨oc, od, n10, n11, n12, cda, n14, osl, n2, msg, j, p1, p2, q1, q2, q3, q4, q5, q6, r1, r2, r3, r4, cc, rfl, c1, hl, ?_, ?_⟩
        · split at c2
          · rename_i ccl cdd vs ccs hk
            split at c2
            · rename_i z tz hz
              exact ⟨_, _, _, _, _, _, hk, hz, c2⟩
            · cases c2
          · cases c2
        · split at c3
          · rename_i cl cld cv csl hk
            have e3 := beq_iff_eq.mp c3
            subst e3
            exact ⟨_, _, _, hk⟩
          · cases c3
      | _ => cases c
    | _ => cases c
theorem supC_of {K : PySem.W.Frag} {prog : Program} {x f qual msg : Str} {j : Nat} {p1 p2 q1 q2 q3 q4 q5 q6 r1 r2 r3 r4 : Pos} {B newId initId : String} {bmB : List Value}
    (e : fnI K (x, some "__init__") = iniVal qual (eA f p1 p2) (eB f msg j q1 q2 q3 q4 q5 q6 r1 r2 r3 r4) (eS f))
    (c : supB K prog.main.file x f qual B newId initId bmB = true) (hl : (q3.endLine == q5.line) = true) (top : (prog.main.scope.names.lookup ("super" : Str)).isSome = false)
    (kS : (eS f).names.lookup ("self" : Str) = some .local) (kF : (eS f).names.lookup f = some .local) (kC : (eS f).names.lookup ("__class__" : Str) = some .free) (kU : (eS f).names.lookup ("super" : Str) = some .globalImplicit)
    (bnd : ∀ (qual : Str) (body : List Stmt) (doc pm : Value) (an : Option Addr) (cdv ct : Value) (cc : Addr) (p1 p2 : Pos) (a b : Value), bindArgs (PySem.W.ksFn "__init__" qual (eA f p1 p2) body (eS f) .none .none doc pm an cdv ct cc) ⟨[a, b], []⟩ = pure [(("self" : Str), a), (f, b)])
    (nf : (f == ("self" : Str)) = false) (nd : (f == ("__debug__" : Str)) = false) :
    SupC K prog (ga K x) (ma K (ga K x) "__init__") f B newId initId bmB ∧ PySem.W.nsIn K mainGlobals x = some (some (.ref (ga K x))) ∧ XfC K (ga K x) := by
  unfold supB at c
  simp only [Bool.and_eq_true, decide_eq_true_eq] at c
  obtain ⟨⟨⟨⟨⟨⟨⟨⟨⟨⟨⟨⟨⟨⟨c1, c2⟩, c3⟩, c4⟩, c5⟩, c6⟩, c7⟩, c8⟩, c9⟩, c10⟩, c11⟩, c12⟩, c13⟩, c14⟩, c15⟩ := c
  exact ⟨⟨supCls_ok c1, c3, c4, c5, c6, c7, c8, c9, c10, c11, c12, c13, top, kS, kF, kC, kU, bnd, nf, nd, fnCell_ok hl e c2⟩, c14, xfB_ok c15⟩
end Pw

/-! ## Part F: a def of the text with all that its callers ask -/
namespace Pw
open PySem PySem.Spec PyProof.Rows L2

/-- the def x of the module keeps the promise sp -/
def Has (P : Program) (w : World) (K : PySem.W.Frag) (mg : Str → Option Value) (base : Heap) (k : Nat) (x : Str) (ps : List Str) (sp : Sp) : Prop :=
  ∃ fd, FnG P w K mg base k (He.ga K x) fd ps sp ∧ Binds K fd ps [] ∧ PySem.W.keepIn K (.ref (He.ga K x)) = true ∧ mg x = some (.ref (He.ga K x))
/-- the def as it stands -/
abbrev Defd (K : PySem.W.Frag) (x : Str) (st : Stmt) : Prop := ∃ fd, FunD K x x (defArgs st) (defBody st) (defScope st) [] [] (He.ga K x) fd
section
variable {P : Program} {w : World} {K : PySem.W.Frag} {mg : Str → Option Value} {base : Heap}
theorem Has.mk {x : Str} {st : Stmt} {N ps : List Str} {k : Nat} {sp : Sp} (d : Defd K x st) (g : mg x = some (.ref (He.ga K x))) (S : FnScope N ps (defScope st))
    (hb : ∀ (kV doc pm : Value) (an : Option Addr) (cdv ct : Value) (us : List Value), us.length = ps.length → bindArgs (PySem.W.fnOf x x (defArgs st) (defBody st) (defScope st) .none kV doc pm an cdv ct) ⟨us, []⟩ = pure (ps.zip us))
    (len : ∀ vs H Q E, sp vs H Q E → vs.length = ps.length)
    (hbody : ∀ (f : Addr) (cdv : Value) (A : Around) (outer : List Env) (s : Shared) (H : Hp) (vs : List V) (Q : VK) (E : XK), Room k (A.deeper (envOfC x (defScope st) s.heap.objs.size f cdv)) → (A.deeper (envOfC x (defScope st) s.heap.objs.size f cdv)).guards = some [] → sp vs H Q E →
      ∃ t, PSs (cxOf (L2.CX P w) P w K mg base N x (defScope st) f cdv A outer s H E) (defBody st) t ∧ t { nx := fun _ H' => Q .non H', rt := Q } (start N vs) H) :
    Has P w K mg base (k + 1) x ps sp := by
  obtain ⟨fd, F⟩ := d
  exact ⟨fd, fnG_of F S len fun cdv A outer s H vs Q E => hbody (He.ga K x) cdv A outer s H vs Q E, F.bindsN hb, F.kp, g⟩
theorem Has.imp {x : Str} {ps : List Str} {k : Nat} {sp sp' : Sp} (h : Has P w K mg base k x ps sp) (i : ∀ vs H Q E, sp' vs H Q E → sp vs H Q E) : Has P w K mg base k x ps sp' := by
  obtain ⟨fd, F, r⟩ := h
  exact ⟨fd, ⟨fun vs H Q E q => F.len vs H Q E (i _ _ _ _ q), fun A outer s H args us vs Q E hr hg e b v q => F.run A outer s H args us vs Q E hr hg e b v (i _ _ _ _ q)⟩, r⟩
end
theorem cx_K {CX : CXT} {P : Program} {w : World} {K : PySem.W.Frag} {mg : Str → Option Value} {base : Heap} {N : List Str} {q : Str} {sc : Scope} {f : Addr} {cd : Value} {A : Around} {outer : List Env} {s : Shared} {H : Hp} {E : XK} :
    (cxOf CX P w K mg base N q sc f cd A outer s H E).K = K := rfl
section
variable {X : Cx} {k : Nat} {ps : List Str} {sp : Sp} {x : Str} {p pos : Pos} {e : Expr} {es : List Expr} {t : TA} {W : WX}
/-- f(e, ..) -/
theorem pe_callH (h : Has X.prog X.w X.K X.mg X.base k x ps sp) (hr : Room k X.A) (hgd : X.A.guards = some []) (tk : Takes X W) (ha : PA X (e :: es) t) (hg : Gl X x := by rfl) (hdb : (x == ("__debug__" : Str)) = false := by decide)
    (he : starEach (e :: es) X.env = (false, eval e X.env) :: starEach es X.env := by rfl) (hpl : (backTo pos (starEach es X.env)).any (·.1) = false := by rfl) :
    PE X (.Call (.Name x p) (e :: es) [] pos) (tCallS sp (WE W) t) := by
  obtain ⟨fd, F, b, kp, g⟩ := h
  exact pe_callG F hr hgd hg g kp b (fun σ => passAt tk σ) ha hdb he hpl
theorem pe_gint {i : Int} (h : ∃ t, X.mg x = some (.int i t)) (hg : Gl X x := by rfl) (hd : (x == ("__debug__" : Str)) = false := by decide) : PE X (.Name x pos) (tC (.int i)) := by
  obtain ⟨t, h⟩ := h
  exact pe_glob hg h ⟨t, rfl⟩ hd
theorem pe_gstr {z : Str} (h : ∃ t, X.mg x = some (.str z t)) (hg : Gl X x := by rfl) (hd : (x == ("__debug__" : Str)) = false := by decide) : PE X (.Name x pos) (tC (.str z)) := by
  obtain ⟨t, h⟩ := h
  exact pe_glob hg h ⟨t, rfl⟩ hd
/-- isinstance(e, T), T a built-in type -/
theorem pe_isi (K : PySem.W.Frag) {a b : Expr} {ta tb : TE} (hm : X.mg "isinstance" = none) (ha : PE X a ta) (hb : PE X b tb) (hg : Gl X "isinstance" := by rfl)
    (he : starEach [a, b] X.env = (false, eval a X.env) :: starEach [b] X.env := by rfl) (hpl : (backTo pos (starEach [b] X.env)).any (·.1) = false := by rfl) (hs : starEach [b] X.env = (false, eval b X.env) :: starEach [] X.env := by rfl) (hK : X.K = K := by rfl) :
    PE X (.Call (.Name "isinstance" p) [a, b] [] pos) (tCB (rIsi K) (tCons ta (tCons tb tNil))) := by
  subst hK
  exact pe_callB call_isi hg hm (by decide +kernel) (pa_cons ha (pa_cons hb pa_nil hs) he) (by decide) (by decide) he hpl
theorem pe_ty {T : String} (hm : X.mg x = none) (hv : bootBuiltins x = some (.type T)) (hg : Gl X x := by rfl) (hn : x ≠ "__name__" := by decide) (hd : (x == ("__debug__" : Str)) = false := by decide) : PE X (.Name x pos) (tC (.ty T)) :=
  pe_bltn hg hm hv rfl hn hd
end
/-! ### answers: loops -/
section
variable {D : Ends} {σ : L2.St} {H : Hp} {g : TG} {tb : TS} {tas : TA} {c : TT} {K : PySem.W.Frag} {te : TE}
theorem w_forR1 {j : Int} (Pv : Nat → L2.St → Hp → Prop) (ht : tas σ H fun vs H1 => vs = [.int j] ∧ -(2 ^ 62) ≤ j ∧ j < 2 ^ 62 ∧ Pv 0 σ H1)
    (hs : ∀ i σ H, i < j.toNat → Pv i σ H → g (.int i) σ H fun σ2 H2 => tb { D with nx := Pv (i + 1), ct := Pv (i + 1), bk := D.nx } σ2 H2) (hd : ∀ σ H, Pv j.toNat σ H → D.nx σ H)
    (mono : ∀ Q Q' : List V → Hp → Prop, (∀ vs H1, Q vs H1 → Q' vs H1) → tas σ H Q → tas σ H Q') : tFor (iRng1 tas) g tb D σ H := by
  refine mono _ _ ?_ ht
  rintro vs H1 ⟨rfl, h1, h2, h0⟩
  exact ⟨j, rfl, h1, h2, for_range (lo := 0) Pv h0 (fun i σ H hi p => by simpa using hs i σ H hi p) hd⟩
theorem w_while (h : ∃ W : Nat → L2.St → Hp → Prop, (∃ m, W m σ H) ∧ ∀ m σ H, W m σ H →
  c σ H fun b H1 => if b = true then ∃ N : L2.St → Hp → Prop, (∀ σ' H', N σ' H' → ∃ m', m' < m ∧ W m' σ' H') ∧ tb { D with nx := N, ct := N, bk := D.nx } σ H1 else D.nx σ H1) : tWhile c tb D σ H := h
end
end Pw

/-! ## Part G: values of any plain kind -/
namespace Pw
open PySem PySem.Spec PyProof.Rows L2
/-- a plain object: a tuple, a list that is no die, a dict -/
def plainO : HO → Bool
  | .tup _ => true
  | .lst xs => !dieO (.lst xs)
  | .dK _ => true
  | _ => false
/-- a value of a plain built-in kind -/
def Kd (H : Hp) : V → Prop
  | .non => True
  | .bl _ => True
  | .int _ => True
  | .str _ => True
  | .ref a => ∃ o, H a = some o ∧ plainO o = true
  | _ => False
theorem plain_noDie {o : HO} (h : plainO o = true) : dieO o = false := by
  cases o <;> first | rfl | (simpa [plainO] using h) | (cases h)
theorem Kd.ext {H H' : Hp} {x : V} (e : ExtR H H') (h : Kd H x) : Kd H' x := by
  cases x <;> first | trivial | exact h | exact h.elim | skip
  obtain ⟨o, h1, h2⟩ := h
  exact ⟨o, e _ _ (plain_noDie h2) h1, h2⟩
def isIntV : V → Bool
  | .int _ => true
  | .bl _ => true
  | _ => false
def isBoolV : V → Bool
  | .bl _ => true
  | _ => false
def isStrV : V → Bool
  | .str _ => true
  | _ => false
/-- the built-in type of a plain value -/
theorem Kd.ty {K : PySem.W.Frag} {H : Hp} {x : V} (h : Kd H x) : ∃ n, TyX K H x (.type n) ∧ n ∈ (["NoneType", "bool", "int", "str", "tuple", "list", "dict"] : List String) ∧ isIntV x = (n == "int" || n == "bool") ∧ isBoolV x = (n == "bool") ∧ isStrV x = (n == "str") := by
  cases x with
  | non => exact ⟨_, .base .non, by decide, by simp [isIntV], by simp [isBoolV], by simp [isStrV]⟩
  | bl b => exact ⟨_, .base (.bl b), by decide, by simp [isIntV], by simp [isBoolV], by simp [isStrV]⟩
  | int i => exact ⟨_, .base (.int i), by decide, by simp [isIntV], by simp [isBoolV], by simp [isStrV]⟩
  | str s => exact ⟨_, .base (.str s), by decide, by simp [isIntV], by simp [isBoolV], by simp [isStrV]⟩
  | ref a =>
    obtain ⟨o, h1, h2⟩ := h
    cases o with
    | tup xs => exact ⟨_, .base (.tup h1), by decide, by simp [isIntV], by simp [isBoolV], by simp [isStrV]⟩
    | lst xs => exact ⟨_, .base (.lst h1), by decide, by simp [isIntV], by simp [isBoolV], by simp [isStrV]⟩
    | dK kvs => exact ⟨_, .base (.dK h1), by decide, by simp [isIntV], by simp [isBoolV], by simp [isStrV]⟩
    | _ => cases h2
  | _ => exact h.elim
section
variable {K : PySem.W.Frag} {H : Hp} {x : V} {Q : VK}
theorem w_isi_int (h : Kd H x) (q : Q (.bl (isIntV x)) H) : rIsi K [x, .ty "int"] H Q := by
  obtain ⟨n, t, m, e, _⟩ := h.ty (K := K)
  refine ⟨x, .ty "int", _, _, _, rfl, .ty "int", t, kit_ty (r := isIntV x) ?_, q⟩
  rw [e]
  simp only [List.mem_cons, List.not_mem_nil, or_false] at m
  rcases m with rfl | rfl | rfl | rfl | rfl | rfl | rfl <;> decide +kernel
theorem w_isi_bool (h : Kd H x) (q : Q (.bl (isBoolV x)) H) : rIsi K [x, .ty "bool"] H Q := by
  obtain ⟨n, t, m, _, e, _⟩ := h.ty (K := K)
  refine ⟨x, .ty "bool", _, _, _, rfl, .ty "bool", t, kit_ty (r := isBoolV x) ?_, q⟩
  rw [e]
  simp only [List.mem_cons, List.not_mem_nil, or_false] at m
  rcases m with rfl | rfl | rfl | rfl | rfl | rfl | rfl <;> decide +kernel
theorem w_isi_str (h : Kd H x) (q : Q (.bl (isStrV x)) H) : rIsi K [x, .ty "str"] H Q := by
  obtain ⟨n, t, m, _, _, e⟩ := h.ty (K := K)
  refine ⟨x, .ty "str", _, _, _, rfl, .ty "str", t, kit_ty (r := isStrV x) ?_, q⟩
  rw [e]
  simp only [List.mem_cons, List.not_mem_nil, or_false] at m
  rcases m with rfl | rfl | rfl | rfl | rfl | rfl | rfl <;> decide +kernel
end
/-! ### data stands while the heap grows -/
def threeI : List PyData → Bool
  | [.int _, .int _, .int _] => true
  | _ => false
mutual
def noDie : PyData → Bool
  | .list ds => !threeI ds && noDies ds
  | .tuple ds => noDies ds
  | _ => true
def noDies : List PyData → Bool
  | [] => true
  | d :: ds => noDie d && noDies ds
end
theorem noDie_lst {K : PySem.W.Frag} {H : Hp} {xs : List V} {ds : List PyData} (h : DpAll K H xs ds) (n : (!threeI ds) = true) : dieO (.lst xs) = false := by
  cases e : dieO (.lst xs) with
  | false => rfl
  | true =>
    exfalso
    obtain ⟨a, b, c, rfl⟩ : ∃ a b c, xs = [.int a, .int b, .int c] := by
      unfold dieO at e
      split at e
      · rename_i h
        cases h
        exact ⟨_, _, _, rfl⟩
      · cases e
    cases h with | cons h1 h => cases h with | cons h2 h => cases h with | cons h3 h => cases h with | nil =>
      cases h1; cases h2; cases h3
      cases n
mutual
theorem dp_ext {K : PySem.W.Frag} {H H' : Hp} (x : Ext H H') : ∀ (d : PyData) (v : V), Dp K H v d → Dp K H' v d
  | .none, _, h => by cases h; exact .non
  | .bool b, _, h => by cases h; exact .bl b
  | .int i, _, h => by cases h; exact .int i
  | .str s, _, h => by cases h; exact .str s
  | .list ds, _, h => by
    cases h with
    | lst h1 h2 =>
      refine .lst ?_ (dps_ext x ds _ h2)
      rcases h1 with (h1 | ⟨o, h1⟩) | h1
      · exact .inl (.inl (x _ _ h1))
      · exact .inl (.inr ⟨o, x _ _ h1⟩)
      · exact .inr h1
  | .tuple ds, _, h => by
    cases h with
    | tup h1 h2 => exact .tup (sqT_ext x.r h1) (dps_ext x ds _ h2)
  | .dict _, _, h => by cases h
theorem dps_ext {K : PySem.W.Frag} {H H' : Hp} (x : Ext H H') : ∀ (ds : List PyData) (vs : List V), DpAll K H vs ds → DpAll K H' vs ds
  | [], _, h => by cases h; exact .nil
  | d :: ds, _, h => by
    cases h with
    | cons h1 h2 => exact .cons (dp_ext x d _ h1) (dps_ext x ds _ h2)
end
mutual
theorem dp_extR {K : PySem.W.Frag} {H H' : Hp} (x : ExtR H H') : ∀ (d : PyData) (v : V), noDie d = true → Dp K H v d → Dp K H' v d
  | .none, _, _, h => by cases h; exact .non
  | .bool b, _, _, h => by cases h; exact .bl b
  | .int i, _, _, h => by cases h; exact .int i
  | .str s, _, _, h => by cases h; exact .str s
  | .list ds, _, n, h => by
    cases h with
    | lst h1 h2 =>
      rw [noDie, Bool.and_eq_true] at n
      exact .lst (sqL_ext x h1 (noDie_lst h2 n.1)) (dps_extR x ds _ n.2 h2)
  | .tuple ds, _, n, h => by
    cases h with
    | tup h1 h2 =>
      rw [noDie] at n
      exact .tup (sqT_ext x h1) (dps_extR x ds _ n h2)
  | .dict _, _, _, h => by cases h
theorem dps_extR {K : PySem.W.Frag} {H H' : Hp} (x : ExtR H H') : ∀ (ds : List PyData) (vs : List V), noDies ds = true → DpAll K H vs ds → DpAll K H' vs ds
  | [], _, _, h => by cases h; exact .nil
  | d :: ds, _, n, h => by
    cases h with
    | cons h1 h2 =>
      rw [noDies, Bool.and_eq_true] at n
      exact .cons (dp_extR x d _ n.1 h1) (dps_extR x ds _ n.2 h2)
end
/-- e.f of a caught error e -/
theorem w_xf {σ : L2.St} {H : Hp} {Q : VK} {i : Nat} {a C dd : Addr} {f : Str} {fs : List (Str × V)} {v : V} (e : σ[i]? = some (some (.ref a))) (hd : H dd = some (.xd fs)) (hl : fs.lookup f = some v) (h : Q v H) :
    tXf a (.ref C) (some dd) C f (tVar i) σ H Q := ⟨.ref a, e, rfl, rfl, dd, fs, v, rfl, hd, hl, h⟩
theorem w_dnew {σ : L2.St} {H : Hp} {Q : VK} (h : ∀ p H', H p = none → Ext H H' → H' p = some (.dK []) → Q (.ref p) H') : tDNewK σ H Q := fun p hp => h p _ hp (ext_upd hp) upd_same
theorem w_bm {σ : L2.St} {H : Hp} {Q : VK} {K : PySem.W.Frag} {T : String} {r : V → List V → Hp → VK → Prop} {to : TE} {t : TA} (h : to σ H fun x H1 => tyV K T x H1 ∧ t σ H1 fun xs H2 => r x xs H2 Q) : tBM K T r to t σ H Q := h
/-- xs.append(y) -/
theorem w_append {H : Hp} {Q : VK} {l : Addr} {xs : List V} {y : V} (hl : H l = some (.lst xs)) (hz : xs.length < sizeLine) (h : Q .non (upd H l (.lst (xs ++ [y])))) : rAppend (.ref l) [y] H Q := ⟨l, xs, y, rfl, rfl, hl, hz, h⟩
theorem tyL {K : PySem.W.Frag} {H : Hp} {l : Addr} {xs : List V} (h : SqL K H l xs) : tyV K "list" (.ref l) H := .inl ⟨rfl, xs, h⟩
theorem w_par {D : Ends} {σ : L2.St} {H : Hp} {i j : Nat} {ta : TA} (h : ta σ H fun vs H1 => ∃ v w, vs = [v, w] ∧ D.nx ((σ.set i (some v)).set j (some w)) H1) : tPar i j ta D σ H := h
/-! ### ints as data -/
theorem ab_natAbs (i : Int) : (i.natAbs : Int) = ab i := by unfold ab; split <;> omega
theorem int_small {i : Int} (h : ab i < 10 ^ 60) : i.natAbs < 10 ^ 60 := by have := ab_natAbs i; omega
theorem int_show {i : Int} (h : ab i < 10 ^ 60) : (PyData.int i).showable = true ∧ (PyData.int i).hasDict = false ∧ (PyData.int i).depth ≤ 64 ∧ (PyData.int i).shown.length ≤ 1921 := by
  have h1 : i.natAbs.log2 < 1920 := Nat.lt_of_le_of_lt (Nat.le_of_lt (PySem.Flt.log2_lt_of (k := 200) (by decide) (Nat.lt_trans (int_small h) (by decide)))) (by decide)
  refine ⟨?_, rfl, by simp [PyData.depth], ?_⟩
  · simp only [PyData.showable, decide_eq_true_eq]
    exact h1
  · simp only [PyData.shown]
    exact int_text_len_1921 h1
/-! ### a local list that grows -/
theorem w_appendX {H : Hp} {Q : VK} {l : Addr} {xs : List V} {y : V} (hl : H l = some (.lst xs)) (hz : xs.length < sizeLine) (h : ∀ H', ExtD l H H' → H' l = some (.lst (xs ++ [y])) → Q .non H') : rAppend (.ref l) [y] H Q :=
  w_append hl hz (h _ extD_upd upd_same)
theorem ext_local {H0 H1 H2 : Hp} {l : Addr} (n : H0 l = none) (x : Ext H0 H1) (y : ExtD l H1 H2) : Ext H0 H2 := fun a o e => y a o (ne_of_none e n) (x a o e)
theorem Die.extD {H H' : Hp} {d l : Addr} (h : Die H d) (x : ExtD l H H') (n : d ≠ l) : Die H' d := by
  obtain ⟨a, b, c, h1, h2⟩ := h
  exact ⟨a, b, c, h1, x _ _ n h2⟩
theorem Kd.extD {H H' : Hp} {l : Addr} {x : V} (e : ExtD l H H') (h : Kd H x) (n : x ≠ .ref l) : Kd H' x := by
  cases x <;> first | trivial | exact h | exact h.elim | skip
  obtain ⟨o, h1, h2⟩ := h
  exact ⟨o, e _ _ (fun z => n (by rw [z])) h1, h2⟩
theorem Kd.fresh {H : Hp} {l : Addr} {x : V} (h : Kd H x) (n : H l = none) : x ≠ .ref l := by
  rintro rfl
  obtain ⟨o, h1, _⟩ := h
  rw [n] at h1
  cases h1
def scalD : PyData → Bool
  | .none | .bool _ | .int _ | .str _ => true
  | _ => false
def flatD : PyData → Bool
  | .list ds => ds.all scalD
  | .tuple ds => ds.all scalD
  | .dict _ => false
  | _ => true
theorem dp_scal {K : PySem.W.Frag} {H H' : Hp} {d : PyData} {v : V} (s : scalD d = true) (h : Dp K H v d) : Dp K H' v d := by
  cases h <;> first | exact .non | exact .bl _ | exact .int _ | exact .str _ | cases s
theorem dps_scal {K : PySem.W.Frag} {H H' : Hp} : ∀ {ds : List PyData} {vs : List V}, ds.all scalD = true → DpAll K H vs ds → DpAll K H' vs ds
  | [], _, _, h => by cases h; exact .nil
  | d :: ds, _, s, h => by
    cases h with
    | cons h1 h2 =>
      rw [List.all_cons, Bool.and_eq_true] at s
      exact .cons (dp_scal s.1 h1) (dps_scal s.2 h2)
theorem dp_flat {K : PySem.W.Frag} {H H' : Hp} {l : Addr} {d : PyData} {v : V} (e : ExtD l H H') (f : flatD d = true) (h : Dp K H v d) (n : v ≠ .ref l) : Dp K H' v d := by
  cases h with
  | non => exact .non
  | bl b => exact .bl b
  | int i => exact .int i
  | str s => exact .str s
  | lst h1 h2 => exact .lst (sqL_D e h1 (fun z => n (by rw [z]))) (dps_scal f h2)
  | tup h1 h2 =>
    refine .tup ?_ (dps_scal f h2)
    rcases h1 with (h1 | ⟨o, h1⟩) | h1
    · exact .inl (.inl (e _ _ (fun z => n (by rw [z])) h1))
    · exact .inl (.inr ⟨o, e _ _ (fun z => n (by rw [z])) h1⟩)
    · exact .inr h1
/-! ### loops -/
def forR (g : TG) (tb : TS) (D : Ends) (σ : L2.St) (J : It) (H1 : Hp) : Prop := ∃ W : Nat → Nat → L2.St → Hp → Prop, (∃ m, W 0 m σ H1) ∧ ∀ i m σ H, W i m σ H →
  (J.stop i H ∧ D.nx σ H) ∨ (J.go i H ∧ ∃ N : L2.St → Hp → Prop, (∀ σ' H', N σ' H' → ∃ m', m' < m ∧ W (i + 1) m' σ' H') ∧ ∀ x H', J.yld i H x H' → g x σ H' fun σ2 H2 => tb { D with nx := N, ct := N, bk := D.nx } σ2 H2)
def rng1R (R : It → Hp → Prop) (vs : List V) (H : Hp) : Prop := ∃ j : Int, vs = [.int j] ∧ -(2 ^ 62) ≤ j ∧ j < 2 ^ 62 ∧ R (Itr 0 j.toNat) H
def rng2R (R : It → Hp → Prop) (vs : List V) (H : Hp) : Prop := ∃ i j : Int, vs = [.int i, .int j] ∧ (-(2 ^ 62) ≤ i ∧ i < 2 ^ 62 ∧ -(2 ^ 62) ≤ j ∧ j < 2 ^ 62) ∧ R (Itr i (j - i).toNat) H
section
variable {D : Ends} {σ : L2.St} {H : Hp} {g : TG} {tb : TS} {ta : TA} {wi : TI} {R : It → Hp → Prop} {K : PySem.W.Frag} {te : TE}
theorem w_for (h : wi σ H (forR g tb D σ)) : tFor wi g tb D σ H := h
theorem w_rng1 (h : ta σ H fun vs H1 => rng1R R vs H1) : iRng1 ta σ H R := h
theorem w_rng2 (h : ta σ H fun vs H1 => rng2R R vs H1) : iRng2 ta σ H R := h
theorem w_rng1v {j : Int} (h1 : -(2 ^ 62) ≤ j) (h2 : j < 2 ^ 62) (h : R (Itr 0 j.toNat) H) : rng1R R [.int j] H := ⟨j, rfl, h1, h2, h⟩
theorem w_rng2v {i j : Int} (h1 : -(2 ^ 62) ≤ i ∧ i < 2 ^ 62 ∧ -(2 ^ 62) ≤ j ∧ j < 2 ^ 62) (h : R (Itr i (j - i).toNat) H) : rng2R R [.int i, .int j] H := ⟨i, j, rfl, h1, h⟩
theorem w_forRng {n : Nat} (Pv : Nat → L2.St → Hp → Prop) (h0 : Pv 0 σ H) (hs : ∀ i σ H, i < n → Pv i σ H → g (.int i) σ H fun σ2 H2 => tb { D with nx := Pv (i + 1), ct := Pv (i + 1), bk := D.nx } σ2 H2)
    (hd : ∀ σ H, Pv n σ H → D.nx σ H) : forR g tb D σ (Itr 0 n) H := for_range (lo := 0) Pv h0 (fun i σ H hi p => by simpa using hs i σ H hi p) hd
theorem w_forRng2 {lo : Int} {n : Nat} (Pv : Nat → L2.St → Hp → Prop) (h0 : Pv 0 σ H) (hs : ∀ i σ H, i < n → Pv i σ H → g (.int (lo + i)) σ H fun σ2 H2 => tb { D with nx := Pv (i + 1), ct := Pv (i + 1), bk := D.nx } σ2 H2)
    (hd : ∀ σ H, Pv n σ H → D.nx σ H) : forR g tb D σ (Itr lo n) H := for_range Pv h0 hs hd
theorem w_iList (h : te σ H fun x H1 => ∃ a, x = .ref a ∧ (∃ xs, SqL K H1 a xs) ∧ R (Itl K a) H1) : iList K te σ H R := h
theorem w_iTup (h : te σ H fun x H1 => ∃ a, x = .ref a ∧ (∃ xs, SqT K H1 a xs) ∧ R (Itt K a) H1) : iTup K te σ H R := h
theorem w_forList {a : Addr} {xs : List V} (Pv : Nat → L2.St → Hp → Prop) (h0 : Pv 0 σ H) (hl : ∀ i σ H, i ≤ xs.length → Pv i σ H → SqL K H a xs)
    (hs : ∀ i x σ H, xs[i]? = some x → Pv i σ H → g x σ H fun σ2 H2 => tb { D with nx := Pv (i + 1), ct := Pv (i + 1), bk := D.nx } σ2 H2) (hd : ∀ σ H, Pv xs.length σ H → D.nx σ H) : forR g tb D σ (Itl K a) H :=
  for_list Pv h0 hl hs hd
theorem w_forTup {a : Addr} {xs : List V} (Pv : Nat → L2.St → Hp → Prop) (h0 : Pv 0 σ H) (hl : ∀ i σ H, i ≤ xs.length → Pv i σ H → SqT K H a xs)
    (hs : ∀ i x σ H, xs[i]? = some x → Pv i σ H → g x σ H fun σ2 H2 => tb { D with nx := Pv (i + 1), ct := Pv (i + 1), bk := D.nx } σ2 H2) (hd : ∀ σ H, Pv xs.length σ H → D.nx σ H) : forR g tb D σ (Itt K a) H :=
  for_tup Pv h0 hl hs hd
end
theorem sqL_fresh {K : PySem.W.Frag} {H H1 H2 : Hp} {s d : Addr} {xs : List V} (h : SqL K H s xs) (n : H d = none) (x : Ext H H1) (y : ExtD d H1 H2) : SqL K H2 s xs := by
  rcases h with (h | ⟨o, h⟩) | h
  · exact .inl (.inl (y _ _ (ne_of_none h n) (x _ _ h)))
  · exact .inl (.inr ⟨o, y _ _ (ne_of_none h n) (x _ _ h)⟩)
  · exact .inr h
end Pw

namespace K02
open PySem PySem.Spec PyProof.Rows L2 Pw
local macro_rules | `(tactic| walk_at "rd1") => `(tactic| first
  | with_reducible refine w_asg ?_ | with_reducible refine w_name ?_ | with_reducible refine w_gsub ?_ | with_reducible refine w_ifS ?_ | with_reducible refine w_ret ?_ | with_reducible refine w_drop ?_ | with_reducible refine w_bm ?_ | with_reducible refine w_for ?_ | with_reducible refine w_rng1 ?_ | with_reducible refine w_rng2 ?_ | with_reducible refine w_iList ?_ | with_reducible refine w_iTup ?_ | with_reducible refine w_par ?_ | with_reducible refine w_next ?_
  | with_reducible refine w_var rfl ?_ | with_reducible refine w_c ?_ | with_reducible refine w_op ?_ | with_reducible refine w_un ?_ | with_reducible refine w_rU ?_
  | with_reducible refine w_test ?_ | with_reducible refine w_tB ?_ | with_reducible refine w_bl ?_ | with_reducible refine w_and ?_ | with_reducible refine w_or ?_ | with_reducible refine w_not ?_
  | with_reducible refine w_andV ?_ | with_reducible refine w_orV ?_ | with_reducible refine w_notV ?_ | with_reducible refine w_ifE ?_ | with_reducible refine w_bV ?_
  | with_reducible refine w_nil ?_ | with_reducible refine w_cons ?_ | with_reducible refine w_CB ?_ | with_reducible refine w_callS ?_ | with_reducible refine w_tup ?_ | with_reducible refine w_lst ?_
  | with_reducible refine w_add_i ?_ | with_reducible refine w_sub ?_ | with_reducible refine w_mul_l (by decide) ?_ | with_reducible refine w_mul_r (by decide) ?_
  | with_reducible refine w_fdL (by decide) (by decide +kernel) ?_ | with_reducible refine w_mod (by decide) ?_ | with_reducible refine w_powL (by decide) (by decide) (by decide +kernel) ?_
  | with_reducible refine w_lt_i ?_ | with_reducible refine w_le_i ?_ | with_reducible refine w_gt_i ?_ | with_reducible refine w_ge_i ?_
  | with_reducible refine w_eq_i ?_ | with_reducible refine w_ne_i ?_ | with_reducible refine w_eq_s ?_ | with_reducible refine w_ne_s ?_ | with_reducible refine w_eq_is ?_ | with_reducible refine w_ne_is ?_ | with_reducible refine w_eq_si ?_ | with_reducible refine w_ne_si ?_ | with_reducible refine w_eq_b ?_ | with_reducible refine w_ne_b ?_
  | with_reducible refine w_isN ?_ | with_reducible refine w_isB ?_ | with_reducible refine w_isnotN ?_ | with_reducible refine w_isnotB ?_
  | with_reducible refine w_abs ?_ | with_reducible refine w_max2 ?_ | with_reducible refine w_min2 ?_ | with_reducible refine w_int_i ?_ | with_reducible refine w_int_b ?_
  | with_reducible refine w_iteT ?_ | with_reducible refine w_iteF ?_ | with_reducible refine w_iteN ?_
  | with_reducible refine w_isi_int (by first | assumption | with_unfolding_all exact True.intro) ?_ | with_reducible refine w_isi_bool (by first | assumption | with_unfolding_all exact True.intro) ?_ | with_reducible refine w_isi_str (by first | assumption | with_unfolding_all exact True.intro) ?_
  | with_reducible refine w_iteDt rfl ?_
  | ((with_reducible refine w_iteG ?_); first | refine w_iteTe (by first | rfl | assumption) ?_ | refine w_iteFe (by first | rfl | assumption) ?_))
local macro_rules | `(tactic| walk_at "ro1") => `(tactic| first | walk_at "rd1" | with_reducible refine w_iteDt (by omega) ?_ | with_reducible refine w_iteDf (by omega) ?_)
local macro_rules | `(tactic| walk_at "ro") => `(tactic| repeat (first | with_reducible refine w_seq ?_ | walk_at "ro1"))
local macro_rules | `(tactic| walk_at "rx") => `(tactic| repeat walk_at "rd1")
local macro_rules | `(tactic| walk_at "rd") => `(tactic| repeat (first | with_reducible refine w_seq ?_ | walk_at "rd1"))
def top (i : Nat) : Stmt := PySem.Challenge.pw_pagewright_k02_scaled_lengths_and_errors.main.body.getD i (.Pass ⟨0, 0, 0, 0⟩)
def dfn (x : Str) (i : Nat) : He.DefD := ⟨(x, none), x, x, defArgs (top i), defBody (top i), defScope (top i), [], []⟩
def clsInit (st : Stmt) : Stmt := match st with
  | .ClassDef _ _ _ body .. => body.getD 0 (.Pass ⟨0, 0, 0, 0⟩)
  | _ => .Pass ⟨0, 0, 0, 0⟩
theorem sc_is_whole : FnScope ["value"] ["value"] (defScope (top 8)) := ⟨rfl, rfl, rfl, by decide +kernel, rfl, by decide +kernel, by decide +kernel⟩
theorem sc_is_length : FnScope ["value"] ["value"] (defScope (top 9)) := ⟨rfl, rfl, rfl, by decide +kernel, rfl, by decide +kernel, by decide +kernel⟩
theorem sc_rounded : FnScope ["top", "bottom", "found"] ["top", "bottom"] (defScope (top 11)) := ⟨rfl, rfl, rfl, by decide +kernel, rfl, by decide +kernel, by decide +kernel⟩
theorem sc_require_length : FnScope ["value"] ["value"] (defScope (top 12)) := ⟨rfl, rfl, rfl, by decide +kernel, rfl, by decide +kernel, by decide +kernel⟩
theorem sc_text_of_length : FnScope ["length", "sign"] ["length"] (defScope (top 14)) := ⟨rfl, rfl, rfl, by decide +kernel, rfl, by decide +kernel, by decide +kernel⟩
theorem sc_scaled : FnScope ["length", "times", "by", "found"] ["length", "times", "by"] (defScope (top 15)) := ⟨rfl, rfl, rfl, by decide +kernel, rfl, by decide +kernel, by decide +kernel⟩
theorem sc__law_dice : FnScope ["_law_script", "_law_spot", "_law_cell", "_law_left"] ["_law_script", "_law_spot"] (defScope (top 17)) := ⟨rfl, rfl, rfl, by decide +kernel, rfl, by decide +kernel, by decide +kernel⟩
theorem sc__law_roll : FnScope ["_law_dice_here", "_law_total", "_law_found", "_law_one", "_law_two"] ["_law_dice_here", "_law_total"] (defScope (top 18)) := ⟨rfl, rfl, rfl, by decide +kernel, rfl, by decide +kernel, by decide +kernel⟩
theorem sc__law_pick : FnScope ["_law_dice_here", "_law_items"] ["_law_dice_here", "_law_items"] (defScope (top 19)) := ⟨rfl, rfl, rfl, by decide +kernel, rfl, by decide +kernel, by decide +kernel⟩
theorem sc__law_nearest : FnScope ["_law_number", "_law_by", "_law_found"] ["_law_number", "_law_by"] (defScope (top 20)) := ⟨rfl, rfl, rfl, by decide +kernel, rfl, by decide +kernel, by decide +kernel⟩
theorem sc__law_drawn_length : FnScope ["_law_dice_here", "_law_way", "_law_found"] ["_law_dice_here"] (defScope (top 21)) := ⟨rfl, rfl, rfl, by decide +kernel, rfl, by decide +kernel, by decide +kernel⟩
theorem sc__law_told : FnScope ["_law_length", "_law_times", "_law_by", "e"] ["_law_length", "_law_times", "_law_by"] (defScope (top 22)) := ⟨rfl, rfl, rfl, by decide +kernel, rfl, by decide +kernel, by decide +kernel⟩
theorem sc__law_due : FnScope ["_law_length", "_law_times", "_law_by", "_law_found"] ["_law_length", "_law_times", "_law_by"] (defScope (top 23)) := ⟨rfl, rfl, rfl, by decide +kernel, rfl, by decide +kernel, by decide +kernel⟩
theorem sc__law_is_refused : FnScope ["_law_value"] ["_law_value"] (defScope (top 24)) := ⟨rfl, rfl, rfl, by decide +kernel, rfl, by decide +kernel, by decide +kernel⟩
theorem sc__law_right : FnScope ["_law_dice_here", "_law_length", "_law_times", "_law_by", "_law_one", "_law_other", "_law_bad"] ["_law_dice_here"] (defScope (top 25)) := ⟨rfl, rfl, rfl, by decide +kernel, rfl, by decide +kernel, by decide +kernel⟩
theorem sc_law : FnScope ["_law_script", "_law_spot", "_law_dice_here", "_law_turn", "_law_told_here"] ["_law_script"] (defScope (top 26)) := ⟨rfl, rfl, rfl, by decide +kernel, rfl, by decide +kernel, by decide +kernel⟩
def fns : List He.DefD := [dfn "is_whole" 8, dfn "is_length" 9, dfn "rounded" 11, dfn "require_length" 12, dfn "text_of_length" 14, dfn "scaled" 15, dfn "_law_dice" 17, dfn "_law_roll" 18, dfn "_law_pick" 19, dfn "_law_nearest" 20, dfn "_law_drawn_length" 21, dfn "_law_told" 22, dfn "_law_due" 23, dfn "_law_is_refused" 24, dfn "_law_right" 25, dfn "law" 26]
def inis : List InitD := [⟨("InvalidNumber", some "__init__"), "InvalidNumber.__init__", defArgs (clsInit (top 3)), defBody (clsInit (top 3)), defScope (clsInit (top 3))⟩]
def fas : List He.Fa := [.glo "is_whole", .glo "is_length", .glo "rounded", .glo "require_length", .glo "text_of_length", .glo "scaled", .glo "_law_dice", .glo "_law_roll", .glo "_law_pick", .glo "_law_nearest", .glo "_law_drawn_length", .glo "_law_told", .glo "_law_due", .glo "_law_is_refused", .glo "_law_right", .glo "law", .free "abs", .free "bool", .free "int", .free "isinstance", .free "len", .free "max", .free "min", .free "range", .free "repr", .int "BOUND" (1000000000000000000000000000000000000000000000000000000000000), .int "MAX_LENGTH" (1073741823), .glo "InvalidLength", .glo "InvalidNumber", .exc "InvalidLength", .exm "InvalidLength" "InvalidLength" true, .exm "InvalidLength" "InvalidNumber" false, .exm "InvalidNumber" "InvalidLength" false, .exm "InvalidNumber" "InvalidNumber" true]
def exs (K : PySem.W.Frag) : Bool := fas.all (fun f => f.ok K) && supB K PySem.Challenge.pw_pagewright_k02_scaled_lengths_and_errors.main.file "InvalidNumber" "value" "InvalidNumber.__init__" "IndexError" "IndexError.__new__" "IndexError.__init__" [.type "IndexError", .type "LookupError", .type "Exception", .type "BaseException", .type "object"]
structure Tx (P : Program) (K : PySem.W.Frag) (mg : Str → Option Value) : Prop where
  d_is_whole : Defd K "is_whole" (top 8)
  d_is_length : Defd K "is_length" (top 9)
  d_rounded : Defd K "rounded" (top 11)
  d_require_length : Defd K "require_length" (top 12)
  d_text_of_length : Defd K "text_of_length" (top 14)
  d_scaled : Defd K "scaled" (top 15)
  d__law_dice : Defd K "_law_dice" (top 17)
  d__law_roll : Defd K "_law_roll" (top 18)
  d__law_pick : Defd K "_law_pick" (top 19)
  d__law_nearest : Defd K "_law_nearest" (top 20)
  d__law_drawn_length : Defd K "_law_drawn_length" (top 21)
  d__law_told : Defd K "_law_told" (top 22)
  d__law_due : Defd K "_law_due" (top 23)
  d__law_is_refused : Defd K "_law_is_refused" (top 24)
  d__law_right : Defd K "_law_right" (top 25)
  d_law : Defd K "law" (top 26)
  g_is_whole : mg "is_whole" = some (.ref (He.ga K "is_whole"))
  g_is_length : mg "is_length" = some (.ref (He.ga K "is_length"))
  g_rounded : mg "rounded" = some (.ref (He.ga K "rounded"))
  g_require_length : mg "require_length" = some (.ref (He.ga K "require_length"))
  g_text_of_length : mg "text_of_length" = some (.ref (He.ga K "text_of_length"))
  g_scaled : mg "scaled" = some (.ref (He.ga K "scaled"))
  g__law_dice : mg "_law_dice" = some (.ref (He.ga K "_law_dice"))
  g__law_roll : mg "_law_roll" = some (.ref (He.ga K "_law_roll"))
  g__law_pick : mg "_law_pick" = some (.ref (He.ga K "_law_pick"))
  g__law_nearest : mg "_law_nearest" = some (.ref (He.ga K "_law_nearest"))
  g__law_drawn_length : mg "_law_drawn_length" = some (.ref (He.ga K "_law_drawn_length"))
  g__law_told : mg "_law_told" = some (.ref (He.ga K "_law_told"))
  g__law_due : mg "_law_due" = some (.ref (He.ga K "_law_due"))
  g__law_is_refused : mg "_law_is_refused" = some (.ref (He.ga K "_law_is_refused"))
  g__law_right : mg "_law_right" = some (.ref (He.ga K "_law_right"))
  g_law : mg "law" = some (.ref (He.ga K "law"))
  n_abs : mg "abs" = none
  n_bool : mg "bool" = none
  n_int : mg "int" = none
  n_isinstance : mg "isinstance" = none
  n_len : mg "len" = none
  n_max : mg "max" = none
  n_min : mg "min" = none
  n_range : mg "range" = none
  n_repr : mg "repr" = none
  i_BOUND : ∃ t, mg "BOUND" = some (.int (1000000000000000000000000000000000000000000000000000000000000) t)
  i_MAX_LENGTH : ∃ t, mg "MAX_LENGTH" = some (.int (1073741823) t)
  g_InvalidLength : mg "InvalidLength" = some (.ref (He.ga K "InvalidLength"))
  g_InvalidNumber : mg "InvalidNumber" = some (.ref (He.ga K "InvalidNumber"))
  e_InvalidLength : PySem.W.excIn K (He.ga K "InvalidLength") He.veBase "ValueError.__new__" = true
  k_InvalidLength : PySem.W.keepIn K (.ref (He.ga K "InvalidLength")) = true
  b_InvalidLength : PySem.W.subIn K (.ref (He.ga K "InvalidLength")) (.type "BaseException") = some true
  t_InvalidLength : PySem.W.typeIn K (.ref (He.ga K "InvalidLength")) = some (.type "type")
  m_InvalidLength_InvalidLength : PySem.W.exmOne K (.ref (He.ga K "InvalidLength")) (.ref (He.ga K "InvalidLength")) = some true
  m_InvalidLength_InvalidNumber : PySem.W.exmOne K (.ref (He.ga K "InvalidLength")) (.ref (He.ga K "InvalidNumber")) = some false
  m_InvalidNumber_InvalidLength : PySem.W.exmOne K (.ref (He.ga K "InvalidNumber")) (.ref (He.ga K "InvalidLength")) = some false
  m_InvalidNumber_InvalidNumber : PySem.W.exmOne K (.ref (He.ga K "InvalidNumber")) (.ref (He.ga K "InvalidNumber")) = some true
  x_InvalidNumber : SupC K P (He.ga K "InvalidNumber") (He.ma K (He.ga K "InvalidNumber") "__init__") "value" "IndexError" "IndexError.__new__" "IndexError.__init__" [.type "IndexError", .type "LookupError", .type "Exception", .type "BaseException", .type "object"]
  xf_InvalidNumber : XfC K (He.ga K "InvalidNumber")
  xn_InvalidNumber : PySem.W.findIn K (.ref (He.ga K "InvalidNumber")) "value" = some none
theorem tx_of {K : PySem.W.Frag} {h : Heap} {mg : Str → Option Value} (X : K.In h) (G : h.Ns mainGlobals mg) (cc : SaysP fns inis exs K) : Tx PySem.Challenge.pw_pagewright_k02_scaled_lengths_and_errors K mg := by
  have e := cc.ex_
  unfold exs at e
  simp only [Bool.and_eq_true] at e
  obtain ⟨e0, e1⟩ := e
  have c : ∀ (i : Nat) {f : He.Fa}, fas[i]? = some f → f.ok K = true := fun i f hi => List.all_eq_true.mp e0 f (List.mem_of_getElem? hi)
  have s0 := supC_of (prog := PySem.Challenge.pw_pagewright_k02_scaled_lengths_and_errors) (cc.ini_ 0 rfl) e1 (by rfl) (by decide +kernel) (by decide +kernel) (by decide +kernel) (by decide +kernel) (by decide +kernel) (fun _ _ _ _ _ _ _ _ _ _ _ _ => rfl) (by decide) (by decide)
  exact {
      d_is_whole := cc.def_ 0 rfl,
      d_is_length := cc.def_ 1 rfl,
      d_rounded := cc.def_ 2 rfl,
      d_require_length := cc.def_ 3 rfl,
      d_text_of_length := cc.def_ 4 rfl,
      d_scaled := cc.def_ 5 rfl,
      d__law_dice := cc.def_ 6 rfl,
      d__law_roll := cc.def_ 7 rfl,
      d__law_pick := cc.def_ 8 rfl,
      d__law_nearest := cc.def_ 9 rfl,
      d__law_drawn_length := cc.def_ 10 rfl,
      d__law_told := cc.def_ 11 rfl,
      d__law_due := cc.def_ 12 rfl,
      d__law_is_refused := cc.def_ 13 rfl,
      d__law_right := cc.def_ 14 rfl,
      d_law := cc.def_ 15 rfl,
      g_is_whole := He.glo_ok X G (c 0 rfl),
      g_is_length := He.glo_ok X G (c 1 rfl),
      g_rounded := He.glo_ok X G (c 2 rfl),
      g_require_length := He.glo_ok X G (c 3 rfl),
      g_text_of_length := He.glo_ok X G (c 4 rfl),
      g_scaled := He.glo_ok X G (c 5 rfl),
      g__law_dice := He.glo_ok X G (c 6 rfl),
      g__law_roll := He.glo_ok X G (c 7 rfl),
      g__law_pick := He.glo_ok X G (c 8 rfl),
      g__law_nearest := He.glo_ok X G (c 9 rfl),
      g__law_drawn_length := He.glo_ok X G (c 10 rfl),
      g__law_told := He.glo_ok X G (c 11 rfl),
      g__law_due := He.glo_ok X G (c 12 rfl),
      g__law_is_refused := He.glo_ok X G (c 13 rfl),
      g__law_right := He.glo_ok X G (c 14 rfl),
      g_law := He.glo_ok X G (c 15 rfl),
      n_abs := He.free_ok X G (c 16 rfl),
      n_bool := He.free_ok X G (c 17 rfl),
      n_int := He.free_ok X G (c 18 rfl),
      n_isinstance := He.free_ok X G (c 19 rfl),
      n_len := He.free_ok X G (c 20 rfl),
      n_max := He.free_ok X G (c 21 rfl),
      n_min := He.free_ok X G (c 22 rfl),
      n_range := He.free_ok X G (c 23 rfl),
      n_repr := He.free_ok X G (c 24 rfl),
      i_BOUND := He.int_ok X G (c 25 rfl),
      i_MAX_LENGTH := He.int_ok X G (c 26 rfl),
      g_InvalidLength := He.glo_ok X G (c 27 rfl),
      g_InvalidNumber := He.glo_ok X G (c 28 rfl),
      e_InvalidLength := (He.exc_ok (c 29 rfl)).1,
      k_InvalidLength := (He.exc_ok (c 29 rfl)).2.1,
      b_InvalidLength := (He.exc_ok (c 29 rfl)).2.2.1,
      t_InvalidLength := (He.exc_ok (c 29 rfl)).2.2.2,
      m_InvalidLength_InvalidLength := He.exm_ok (c 30 rfl),
      m_InvalidLength_InvalidNumber := He.exm_ok (c 31 rfl),
      m_InvalidNumber_InvalidLength := He.exm_ok (c 32 rfl),
      m_InvalidNumber_InvalidNumber := He.exm_ok (c 33 rfl),
      x_InvalidNumber := s0.1,
      xf_InvalidNumber := s0.2.2,
      xn_InvalidNumber := s0.1.noN }
abbrev R : PySem.W.OpenRow := PySem.W.OpenLaw.row PySem.Challenge.rw_pagewright_k02_scaled_lengths_and_errors
abbrev hk : PySem.W.Hook := hookP 6 fns inis exs
def ob (s : PySem.W.SharedT) : AlP := obsPG 6 fns inis exs (HandSHeadRun.getT s)
theorem ob_eq (s : PySem.W.SharedT) : ob s = hk.obs s.abs := obsPG_eq (HandSHeadRun.getT_eq s)
def loose0 : List PySem.Str := ["PressError", "InvalidLength", "InvalidNumber", "POINT", "MAX_LENGTH", "BOUND", "is_whole", "is_length", "tens", "rounded", "require_length", "number_text", "text_of_length", "scaled", "_law_dice", "_law_roll", "_law_pick", "_law_nearest", "_law_drawn_length", "_law_told", "_law_due", "_law_is_refused", "_law_right"]
def loose : List PySem.Str := loose0
theorem run (w : World) : HandSHeadRun.RunEq R (PySem.W.view R.prog [26]) hk ob 4000 loose w := by
  intro os
  kernel_rfl
/-! ### the package -/
def isW : V → Bool
  | .int i => decide (ab i < 10 ^ 60)
  | _ => false
def isL : V → Bool
  | .int i => decide (ab i ≤ 1073741823)
  | _ => false
def sp_is_whole (K : PySem.W.Frag) : Sp := fun vs H Q _ => match vs with
  | [x] => Kd H x ∧ Q (.bl (isW x)) H
  | _ => False
theorem ok_is_whole {P : Program} {w : World} {K : PySem.W.Frag} {mg : Str → Option Value} {base : Heap} (T : Tx P K mg)  : Has P w K mg base 1 "is_whole" ["value"] (sp_is_whole K) := by
  refine Has.mk (k := 0) T.d_is_whole T.g_is_whole sc_is_whole (fun _ _ _ _ _ _ us hl => match us, hl with | [_], _ => rfl) (fun vs H Q E h => by rcases vs with _ | ⟨v0, _ | ⟨v1, rest1⟩⟩ <;> first | rfl | exact h.elim) (fun f cdv A outer s H vs Q E hr hgd h => have hu := hr.units; have hu66 := units66 hr; ⟨_, (pss_one (ps_ret (pe_and (pe_isi K T.n_isinstance (pv 0) (pe_ty (T := "int") T.n_int (by decide +kernel))) (pe_and (pe_not (pe_isi K T.n_isinstance (pv 0) (pe_ty (T := "bool") T.n_bool (by decide +kernel)))) (pe_one (pe_cmpR o_lt (pe_callB c_abs (by rfl) T.n_abs (by decide +kernel) (pa_cons (pv 0) pa_nil)) (pe_gint T.i_BOUND) (nomark _))))))), ?_⟩)
  rcases vs with _ | ⟨v0, _ | ⟨v1, rest1⟩⟩ <;> try exact h.elim
  rw [show L2.start ["value"] [v0] = [some v0] from rfl]
  try dsimp only [cx_K]
  obtain ⟨k, q⟩ := h
  walk_at "rd"
  cases v0 <;> first | exact k.elim | (walk_at "rd"; exact q)
def sp_is_length (K : PySem.W.Frag) : Sp := fun vs H Q _ => match vs with
  | [x] => Kd H x ∧ Q (.bl (isL x)) H
  | _ => False
theorem ok_is_length {P : Program} {w : World} {K : PySem.W.Frag} {mg : Str → Option Value} {base : Heap} (T : Tx P K mg) (h_is_whole : Has P w K mg base 1 "is_whole" ["value"] (sp_is_whole K)) : Has P w K mg base 2 "is_length" ["value"] (sp_is_length K) := by
  refine Has.mk (k := 1) T.d_is_length T.g_is_length sc_is_length (fun _ _ _ _ _ _ us hl => match us, hl with | [_], _ => rfl) (fun vs H Q E h => by rcases vs with _ | ⟨v0, _ | ⟨v1, rest1⟩⟩ <;> first | rfl | exact h.elim) (fun f cdv A outer s H vs Q E hr hgd h => have hu := hr.units; have hu66 := units66 hr; ⟨_, (pss_one (ps_ret (pe_and (pe_callH h_is_whole (hr.mono (by decide)) hgd (takes_of rfl rfl rfl rfl) (pa_cons (pv 0) pa_nil)) (pe_one (pe_cmpR o_le (pe_callB c_abs (by rfl) T.n_abs (by decide +kernel) (pa_cons (pv 0) pa_nil)) (pe_gint T.i_MAX_LENGTH) (nomark _)))))), ?_⟩)
  rcases vs with _ | ⟨v0, _ | ⟨v1, rest1⟩⟩ <;> try exact h.elim
  rw [show L2.start ["value"] [v0] = [some v0] from rfl]
  try dsimp only [cx_K]
  obtain ⟨k, q⟩ := h
  walk_at "rd"
  refine ⟨k, ?_⟩
  walk_at "rd"
  cases v0 <;> first | exact k.elim | (refine w_iteF ?_; exact q) | skip
  rename_i i
  refine w_iteD (fun h => ?_) (fun h => ?_)
  · walk_at "rd"
    exact q
  · have : isL (.int i) = false := by
      simp only [isL, decide_eq_false_iff_not]
      omega
    rw [this] at q
    exact q
def rnd (a b : Int) : Int := if 0 ≤ a then (2 * ab a + b) / (2 * b) else -((2 * ab a + b) / (2 * b))
theorem div_ok {a b : Int} (h : 0 < b) (h2 : b < 10 ^ 60) : CDivW a (2 * b) := wide_div (b := 201) (by omega) (by omega) (by decide) (by decide)
def sp_rounded (K : PySem.W.Frag) : Sp := fun vs H Q _ => match vs with
  | [x, y] => ∃ a b, x = .int a ∧ y = .int b ∧ 0 < b ∧ b < 10 ^ 60 ∧ Q (.int (rnd a b)) H
  | _ => False
theorem ok_rounded {P : Program} {w : World} {K : PySem.W.Frag} {mg : Str → Option Value} {base : Heap} (T : Tx P K mg)  : Has P w K mg base 1 "rounded" ["top", "bottom"] (sp_rounded K) := by
  refine Has.mk (k := 0) T.d_rounded T.g_rounded sc_rounded (fun _ _ _ _ _ _ us hl => match us, hl with | [_, _], _ => rfl) (fun vs H Q E h => by rcases vs with _ | ⟨v0, _ | ⟨v1, _ | ⟨v2, rest2⟩⟩⟩ <;> first | rfl | exact h.elim) (fun f cdv A outer s H vs Q E hr hgd h => have hu := hr.units; have hu66 := units66 hr; ⟨_, (pss_cons (ps_set (i := 2) sc_rounded.nd rfl (.inl rfl) (pe_op o_fd (pe_op (o_add K) (pe_op o_mul pe_int (pe_callB c_abs (by rfl) T.n_abs (by decide +kernel) (pa_cons (pv 0) pa_nil))) (pv 1)) (pe_op o_mul pe_int (pv 1)))) (pss_one (ps_ret (pe_ifExp (pt_cmpR o_ge (pv 0) pe_int (nomark _)) (pv 2) (pe_un un_neg (pv 2)))))), ?_⟩)
  rcases vs with _ | ⟨v0, _ | ⟨v1, _ | ⟨v2, rest2⟩⟩⟩ <;> try exact h.elim
  rw [show L2.start ["top", "bottom", "found"] [v0, v1] = [some v0, some v1, none] from rfl]
  try dsimp only [cx_K]
  obtain ⟨a, b, rfl, rfl, h1, h2, q⟩ := h
  walk_at "rd"
  refine w_fd (div_ok h1 h2) ?_
  walk_at "rd"
  refine w_iteD (fun c => ?_) (fun c => ?_)
  · walk_at "rd"
    rw [rnd, if_pos c] at q
    exact q
  · walk_at "rd"
    rw [rnd, if_neg c] at q
    exact q
def CL (K : PySem.W.Frag) : Value := .ref (He.ga K "InvalidLength")
def CN (K : PySem.W.Frag) : Value := .ref (He.ga K "InvalidNumber")
def sp_require_length (K : PySem.W.Frag) : Sp := fun vs H Q E => match vs with
  | [x] => Kd H x ∧ (isL x = true → Q .non H) ∧ (isL x = false → E (CL K) none H)
  | _ => False
theorem ok_require_length {P : Program} {w : World} {K : PySem.W.Frag} {mg : Str → Option Value} {base : Heap} (T : Tx P K mg) (h_is_length : Has P w K mg base 2 "is_length" ["value"] (sp_is_length K)) : Has P w K mg base 3 "require_length" ["value"] (sp_require_length K) := by
  refine Has.mk (k := 2) T.d_require_length T.g_require_length sc_require_length (fun _ _ _ _ _ _ us hl => match us, hl with | [_], _ => rfl) (fun vs H Q E h => by rcases vs with _ | ⟨v0, _ | ⟨v1, rest1⟩⟩ <;> first | rfl | exact h.elim) (fun f cdv A outer s H vs Q E hr hgd h => have hu := hr.units; have hu66 := units66 hr; ⟨_, (pss_one (ps_if (pt_not (pt_val (pe_callH h_is_length (hr.mono (by decide)) hgd (takes_of rfl rfl rfl rfl) (pa_cons (pv 0) pa_nil)))) (pss_one (ps_raise rfl (takes_of rfl rfl rfl rfl) (pmk_own PySem.F.excBase_ValueError T.e_InvalidLength T.g_InvalidLength T.k_InvalidLength (raises_own T.b_InvalidLength T.t_InvalidLength) (by rfl)))) pss_nil)), ?_⟩)
  rcases vs with _ | ⟨v0, _ | ⟨v1, rest1⟩⟩ <;> try exact h.elim
  rw [show L2.start ["value"] [v0] = [some v0] from rfl]
  try dsimp only [cx_K]
  obtain ⟨k, q1, q2⟩ := h
  walk_at "rd"
  refine ⟨k, ?_⟩
  walk_at "rd"
  refine w_iteB (fun c => ?_) (fun c => ?_)
  · walk_at "rd"
    exact q1 c
  · exact q2 c
def sp_text_of_length (K : PySem.W.Frag) : Sp := fun vs H Q E => match vs with
  | [x] => Kd H x ∧ isL x = false ∧ E (CL K) none H
  | _ => False
theorem ok_text_of_length {P : Program} {w : World} {K : PySem.W.Frag} {mg : Str → Option Value} {base : Heap} (T : Tx P K mg) (h_require_length : Has P w K mg base 3 "require_length" ["value"] (sp_require_length K)) : Has P w K mg base 4 "text_of_length" ["length"] (sp_text_of_length K) := by
  refine Has.mk (k := 3) T.d_text_of_length T.g_text_of_length sc_text_of_length (fun _ _ _ _ _ _ us hl => match us, hl with | [_], _ => rfl) (fun vs H Q E h => by rcases vs with _ | ⟨v0, _ | ⟨v1, rest1⟩⟩ <;> first | rfl | exact h.elim) (fun f cdv A outer s H vs Q E hr hgd h => have hu := hr.units; have hu66 := units66 hr; ⟨_, (pss_cons (ps_expr (pe_callH h_require_length (hr.mono (by decide)) hgd (takes_of rfl rfl rfl rfl) (pa_cons (pv 0) pa_nil))) (pss_cons ps_never (pss_one ps_never))), ?_⟩)
  rcases vs with _ | ⟨v0, _ | ⟨v1, rest1⟩⟩ <;> try exact h.elim
  rw [show L2.start ["length", "sign"] [v0] = [some v0, none] from rfl]
  try dsimp only [cx_K]
  obtain ⟨k, q1, q2⟩ := h
  walk_at "rd"
  refine ⟨k, fun c => ?_, fun _ => q2⟩
  rw [q1] at c
  cases c
/-- what scaled makes of three values -/
inductive ER where
  | ok (i : Int) | len | num (x : V)
  deriving DecidableEq
def scR (x y z : V) : ER := match isL x, isW y, isW z with
  | false, _, _ => .len
  | true, false, _ => .num y
  | true, true, false => .num z
  | true, true, true => match x, y, z with
    | .int a, .int b, .int c => if c < 1 then .num z else if isL (.int (rnd (a * b) c)) = true then .ok (rnd (a * b) c) else .len
    | _, _, _ => .len
def sp_scaled (K : PySem.W.Frag) : Sp := fun vs H Q E => match vs with
  | [x, y, z] => Kd H x ∧ Kd H y ∧ Kd H z ∧ match scR x y z with
    | .ok i => Q (.int i) H
    | .len => E (CL K) none H
    | .num v => ∀ d, H d = none → E (CN K) (some d) (upd H d (.xd [("value", v)]))
  | _ => False
theorem ok_scaled {P : Program} {w : World} {K : PySem.W.Frag} {mg : Str → Option Value} {base : Heap} (T : Tx P K mg) (h_is_length : Has P w K mg base 2 "is_length" ["value"] (sp_is_length K)) (h_rounded : Has P w K mg base 1 "rounded" ["top", "bottom"] (sp_rounded K)) (h_is_whole : Has P w K mg base 1 "is_whole" ["value"] (sp_is_whole K)) (h_require_length : Has P w K mg base 3 "require_length" ["value"] (sp_require_length K)) : Has P w K mg base 4 "scaled" ["length", "times", "by"] (sp_scaled K) := by
  refine Has.mk (k := 3) T.d_scaled T.g_scaled sc_scaled (fun _ _ _ _ _ _ us hl => match us, hl with | [_, _, _], _ => rfl) (fun vs H Q E h => by rcases vs with _ | ⟨v0, _ | ⟨v1, _ | ⟨v2, _ | ⟨v3, rest3⟩⟩⟩⟩ <;> first | rfl | exact h.elim) (fun f cdv A outer s H vs Q E hr hgd h => have hu := hr.units; have hu66 := units66 hr; ⟨_, (pss_cons (ps_expr (pe_callH h_require_length (hr.mono (by decide)) hgd (takes_of rfl rfl rfl rfl) (pa_cons (pv 0) pa_nil))) (pss_cons (ps_if (pt_not (pt_val (pe_callH h_is_whole (hr.mono (by decide)) hgd (takes_of rfl rfl rfl rfl) (pa_cons (pv 1) pa_nil)))) (pss_one (ps_raise rfl (takes_of rfl rfl rfl rfl) (pmk_sup baseIE T.x_InvalidNumber T.g_InvalidNumber hr (pa_cons (pv 1) pa_nil) (by rfl)))) pss_nil) (pss_cons (ps_if (PW.pt (pw_or (pt_not (pt_val (pe_callH h_is_whole (hr.mono (by decide)) hgd (takes_of rfl rfl rfl rfl) (pa_cons (pv 2) pa_nil)))) (pw_or1 (pt_cmpR o_lt (pv 2) pe_int (nomark _))))) (pss_one (ps_raise rfl (takes_of rfl rfl rfl rfl) (pmk_sup baseIE T.x_InvalidNumber T.g_InvalidNumber hr (pa_cons (pv 2) pa_nil) (by rfl)))) pss_nil) (pss_cons (ps_set (i := 3) sc_scaled.nd rfl (.inl rfl) (pe_callH h_rounded (hr.mono (by decide)) hgd (takes_of rfl rfl rfl rfl) (pa_cons (pe_op o_mul (pv 0) (pv 1)) (pa_cons (pv 2) pa_nil)))) (pss_cons (ps_if (pt_not (pt_val (pe_callH h_is_length (hr.mono (by decide)) hgd (takes_of rfl rfl rfl rfl) (pa_cons (pv 3) pa_nil)))) (pss_one (ps_raise rfl (takes_of rfl rfl rfl rfl) (pmk_own PySem.F.excBase_ValueError T.e_InvalidLength T.g_InvalidLength T.k_InvalidLength (raises_own T.b_InvalidLength T.t_InvalidLength) (by rfl)))) pss_nil) (pss_one (ps_ret (pv 3)))))))), ?_⟩)
  rcases vs with _ | ⟨v0, _ | ⟨v1, _ | ⟨v2, _ | ⟨v3, rest3⟩⟩⟩⟩ <;> try exact h.elim
  rw [show L2.start ["length", "times", "by", "found"] [v0, v1, v2] = [some v0, some v1, some v2, none] from rfl]
  try dsimp only [cx_K]
  obtain ⟨kx, ky, kz, q⟩ := h
  walk_at "rd"
  refine ⟨kx, fun c => ?_, fun c => ?_⟩
  rotate_left
  · unfold scR at q
    rw [c] at q
    exact q
  walk_at "rd"
  refine ⟨ky, ?_⟩
  walk_at "rd"
  refine w_iteB (fun c2 => ?_) (fun c2 => ?_)
  rotate_left
  · unfold scR at q
    rw [c, c2] at q
    exact w_var (i := 1) rfl ⟨_, rfl, q⟩
  walk_at "rd"
  refine ⟨kz, ?_⟩
  walk_at "rd"
  cases v0 <;> first | (cases c; done) | skip
  cases v1 <;> first | (cases c2; done) | skip
  rename_i a b
  refine w_iteB (fun c3 => ?_) (fun c3 => ?_)
  rotate_left
  · unfold scR at q
    rw [c, c2, c3] at q
    refine w_iteT ?_
    exact w_var (i := 2) rfl ⟨_, rfl, q⟩
  cases v2 <;> first | (cases c3; done) | skip
  rename_i z
  unfold scR at q
  rw [c, c2, c3] at q
  simp only at q
  walk_at "rd"
  have ca : ab a ≤ 1073741823 := of_decide_eq_true c
  have cz : ab z < 10 ^ 60 := of_decide_eq_true c3
  have ca2 : -(2 ^ 64) < a ∧ a < 2 ^ 64 := by
    unfold ab at ca
    split at ca <;> omega
  refine w_iteD (fun c4 => ?_) (fun c4 => ?_)
  · rw [if_pos c4] at q
    exact w_var (i := 2) rfl ⟨_, rfl, q⟩
  rw [if_neg c4] at q
  walk_at "rd"
  refine w_mul_l ca2 ?_
  walk_at "rd"
  refine ⟨_, _, rfl, rfl, by omega, by unfold ab at cz; split at cz <;> omega, ?_⟩
  walk_at "rd"
  refine ⟨trivial, ?_⟩
  walk_at "rd"
  refine w_iteB (fun c5 => ?_) (fun c5 => ?_)
  · walk_at "rd"
    rw [if_pos c5] at q
    exact q
  · rw [if_neg (by rw [c5]; exact Bool.false_ne_true)] at q
    exact q
/-! ### dice -/
def sp__law_dice (K : PySem.W.Frag) : Sp := fun vs H Q _ => match vs with
  | [x, y] => ∃ (s : Addr) (ns : List Int) (i : Nat), x = .ref s ∧ y = .int i ∧ SqL K H s (ns.map V.int) ∧ ∀ d H', H d = none → Ext H H' → Die H' d → Q (.ref d) H'
  | _ => False
theorem ok__law_dice {P : Program} {w : World} {K : PySem.W.Frag} {mg : Str → Option Value} {base : Heap} (T : Tx P K mg)  : Has P w K mg base 1 "_law_dice" ["_law_script", "_law_spot"] (sp__law_dice K) := by
  refine Has.mk (k := 0) T.d__law_dice T.g__law_dice sc__law_dice (fun _ _ _ _ _ _ us hl => match us, hl with | [_, _], _ => rfl) (fun vs H Q E h => by rcases vs with _ | ⟨v0, _ | ⟨v1, _ | ⟨v2, rest2⟩⟩⟩ <;> first | rfl | exact h.elim) (fun f cdv A outer s H vs Q E hr hgd h => have hu := hr.units; have hu66 := units66 hr; ⟨_, (pss_cons (ps_set (i := 2) sc__law_dice.nd rfl (.inl rfl) (pe_ifExp (pt_cmpR o_lt (pv 1) (pe_callB (c_len K) (by rfl) T.n_len (by decide +kernel) (pa_cons (pv 0) pa_nil)) (nomark _)) (pe_callTy c_int (by rfl) T.n_int (by decide +kernel) (pa_cons (pe_ix (ixA K) (pv 0) (pv 1) (fun _ _ => rfl)) pa_nil)) (pe_op (o_add K) (pe_op o_mul pe_int (pv 1)) pe_int))) (pss_cons (ps_set (i := 3) sc__law_dice.nd rfl (.inl rfl) (pe_op o_mod (pe_callB (c_max2 rfl) (by rfl) T.n_max (by decide +kernel) (pa_cons pe_int (pa_cons (pe_op o_sub (pe_callB c_abs (by rfl) T.n_abs (by decide +kernel) (pa_cons (pv 2) pa_nil)) (pe_op o_pow pe_int pe_int)) pa_nil))) (pe_op o_mul (pe_op o_pow pe_int pe_int) (pe_op o_pow pe_int pe_int)))) (pss_one (ps_ret (pe_lst (pa_cons (pv 3) (pa_cons (pe_op (o_add K) (pe_op (o_add K) (pe_op (o_add K) (pe_op o_mul (pe_op o_mod (pe_callB c_abs (by rfl) T.n_abs (by decide +kernel) (pa_cons (pv 2) pa_nil)) pe_int) pe_int) (pe_op o_mul pe_int (pv 1))) (pe_op o_mul pe_int (pe_callTy c_int (by rfl) T.n_int (by decide +kernel) (pa_cons (pe_cmpR o_lt (pv 2) pe_int (nomark _)) pa_nil)))) pe_int) (pa_cons pe_int pa_nil)))))))), ?_⟩)
  rcases vs with _ | ⟨v0, _ | ⟨v1, _ | ⟨v2, rest2⟩⟩⟩ <;> try exact h.elim
  rw [show L2.start ["_law_script", "_law_spot", "_law_cell", "_law_left"] [v0, v1] = [some v0, some v1, none, none] from rfl]
  try dsimp only [cx_K]
  obtain ⟨s, ns, i, rfl, rfl, hs, q⟩ := h
  refine w_seq (w_asg (w_hide fun C hC => ?_))
  have key : ∀ c : Int, C (.int c) H := by
    intro c
    rw [hC]
    walk_at "rd"
    refine w_mul_w ?_ ?_
    · unfold CMulW
      decide +kernel
    walk_at "rd"
    refine ⟨fitsB rfl, fun d hd => q d _ hd (ext_upd hd) ⟨_, _, _, ?_, upd_same⟩⟩
    exact Int.emod_nonneg _ (by decide)
  walk_at "rd"
  refine w_len_L hs ?_
  walk_at "rd"
  refine w_iteD (fun c => ?_) (fun c => ?_)
  · walk_at "rd"
    rw [List.length_map] at c
    have hi : i < ns.length := by omega
    refine w_ixL hs (atI_nat (by rw [List.getElem?_map, List.getElem?_eq_getElem hi]; rfl)) ?_
    walk_at "rd"
    exact key _
  · walk_at "rd"
    exact key _
def sp__law_roll (K : PySem.W.Frag) : Sp := fun vs H Q _ => match vs with
  | [x, y] => ∃ (d : Addr) (n : Int), x = .ref d ∧ y = .int n ∧ Die H d ∧ 0 < n ∧ n < 2 ^ 64 ∧ ∀ r H', 0 ≤ r → r < n → ExtD d H H' → Die H' d → Q (.int r) H'
  | _ => False
theorem ok__law_roll {P : Program} {w : World} {K : PySem.W.Frag} {mg : Str → Option Value} {base : Heap} (T : Tx P K mg)  : Has P w K mg base 1 "_law_roll" ["_law_dice_here", "_law_total"] (sp__law_roll K) := by
  refine Has.mk (k := 0) T.d__law_roll T.g__law_roll sc__law_roll (fun _ _ _ _ _ _ us hl => match us, hl with | [_, _], _ => rfl) (fun vs H Q E h => by rcases vs with _ | ⟨v0, _ | ⟨v1, _ | ⟨v2, rest2⟩⟩⟩ <;> first | rfl | exact h.elim) (fun f cdv A outer s H vs Q E hr hgd h => have hu := hr.units; have hu66 := units66 hr; ⟨_, (pss_cons (ps_if (pt_cmpR o_gt (pe_ix (ixA K) (pv 0) pe_int (fun _ _ => rfl)) pe_int (nomark _)) (pss_cons (ps_set (i := 2) sc__law_roll.nd rfl (.inl rfl) (pe_op o_mod (pe_callTy c_int (by rfl) T.n_int (by decide +kernel) (pa_cons (pe_ix (ixA K) (pv 0) pe_int (fun _ _ => rfl)) pa_nil)) (pv 1))) (pss_cons (ps_asg (pe_op o_fd (pe_ix (ixA K) (pv 0) pe_int (fun _ _ => rfl)) (pv 1)) (pg_sub (pv 0) pe_int set_list)) (pss_one (ps_ret (pv 2))))) pss_nil) (pss_cons (ps_asg (pe_op (o_add K) (pe_ix (ixA K) (pv 0) pe_int (fun _ _ => rfl)) pe_int) (pg_sub (pv 0) pe_int set_list)) (pss_cons (ps_set (i := 3) sc__law_roll.nd rfl (.inl rfl) (pe_op o_mod (pe_callTy c_int (by rfl) T.n_int (by decide +kernel) (pa_cons (pe_op (o_add K) (pe_ix (ixA K) (pv 0) pe_int (fun _ _ => rfl)) (pe_op o_mul pe_int (pe_ix (ixA K) (pv 0) pe_int (fun _ _ => rfl)))) pa_nil)) pe_int)) (pss_cons (ps_set (i := 4) sc__law_roll.nd rfl (.inl rfl) (pe_op (o_add K) (pe_op o_mul (pe_op o_mod (pe_callTy c_int (by rfl) T.n_int (by decide +kernel) (pa_cons (pe_op (o_add K) (pe_op o_mul (pv 3) (pv 3)) (pe_op o_mul pe_int (pe_ix (ixA K) (pv 0) pe_int (fun _ _ => rfl)))) pa_nil)) pe_int) pe_int) (pv 3))) (pss_one (ps_ret (pe_op o_mod (pe_callTy c_int (by rfl) T.n_int (by decide +kernel) (pa_cons (pe_op o_fd (pv 4) pe_int) pa_nil)) (pv 1)))))))), ?_⟩)
  rcases vs with _ | ⟨v0, _ | ⟨v1, _ | ⟨v2, rest2⟩⟩⟩ <;> try exact h.elim
  rw [show L2.start ["_law_dice_here", "_law_total", "_law_found", "_law_one", "_law_two"] [v0, v1] = [some v0, some v1, none, none, none] from rfl]
  try dsimp only [cx_K]
  obtain ⟨d, n, rfl, rfl, ⟨a, b, c, ha, hd⟩, h0, h1, q⟩ := h
  have hS := SqL.of (K := K) hd
  have g0 : atI [V.int a, .int b, .int c] 0 = some (.int a) := rfl
  have g1 : atI [V.int a, .int b, .int c] 1 = some (.int b) := rfl
  have g2 : atI [V.int a, .int b, .int c] 2 = some (.int c) := rfl
  have hdv : ∀ x : Int, CDivW x n := fun x => wide_div (b := 65) h0 (by omega) (by decide) (by decide)
  walk_at "rd"
  refine w_ixL hS g0 ?_
  walk_at "rd"
  refine w_iteD (fun ca => ?_) (fun ca => ?_)
  · walk_at "rd"
    refine w_ixL hS g0 ?_
    walk_at "rd"
    refine w_mod h0 ?_
    walk_at "rd"
    refine w_ixL hS g0 ?_
    walk_at "rd"
    refine w_fd (hdv _) ?_
    walk_at "rd"
    refine w_setL hd (j := 0) rfl ?_
    walk_at "rd"
    exact q _ _ (Int.emod_nonneg _ (by omega)) (Int.emod_lt_of_pos _ h0) extD_upd ⟨_, _, _, Int.ediv_nonneg ha (by omega), upd_same⟩
  · walk_at "rd"
    refine w_ixL hS g2 ?_
    walk_at "rd"
    refine w_setL hd (j := 2) rfl ?_
    walk_at "rd"
    have hS' := SqL.of (K := K) (H := upd H d (.lst [.int a, .int b, .int (c + 1)])) upd_same
    refine w_ixL hS' (v := .int b) rfl ?_
    walk_at "rd"
    refine w_ixL hS' (v := .int (c + 1)) rfl ?_
    walk_at "rd"
    refine w_mul_l ?_ ?_
    · have h1 := Int.emod_nonneg (b + 49979737 * (c + 1)) (show (2305843009213693577 : Int) ≠ 0 by decide)
      have h2 := Int.emod_lt_of_pos (b + 49979737 * (c + 1)) (show (0 : Int) < 2305843009213693577 by decide)
      omega
    walk_at "rd"
    refine w_ixL hS' (v := .int (c + 1)) rfl ?_
    walk_at "rd"
    refine w_mod h0 ?_
    exact q _ _ (Int.emod_nonneg _ (by omega)) (Int.emod_lt_of_pos _ h0) extD_upd ⟨_, _, _, ha, upd_same⟩
def sp__law_pick (K : PySem.W.Frag) : Sp := fun vs H Q _ => match vs with
  | [x, y] => ∃ (d l : Addr) (xs : List V), x = .ref d ∧ y = .ref l ∧ Die H d ∧ SqL K H l xs ∧ l ≠ d ∧ Nat.ble 1 xs.length = true ∧ Nat.ble xs.length 1000000 = true ∧ ∀ v H', v ∈ xs → ExtD d H H' → Die H' d → Q v H'
  | _ => False
theorem ok__law_pick {P : Program} {w : World} {K : PySem.W.Frag} {mg : Str → Option Value} {base : Heap} (T : Tx P K mg) (h__law_roll : Has P w K mg base 1 "_law_roll" ["_law_dice_here", "_law_total"] (sp__law_roll K)) : Has P w K mg base 2 "_law_pick" ["_law_dice_here", "_law_items"] (sp__law_pick K) := by
  refine Has.mk (k := 1) T.d__law_pick T.g__law_pick sc__law_pick (fun _ _ _ _ _ _ us hl => match us, hl with | [_, _], _ => rfl) (fun vs H Q E h => by rcases vs with _ | ⟨v0, _ | ⟨v1, _ | ⟨v2, rest2⟩⟩⟩ <;> first | rfl | exact h.elim) (fun f cdv A outer s H vs Q E hr hgd h => have hu := hr.units; have hu66 := units66 hr; ⟨_, (pss_one (ps_ret (pe_ix (ixA K) (pv 1) (pe_callH h__law_roll (hr.mono (by decide)) hgd (takes_of rfl rfl rfl rfl) (pa_cons (pv 0) (pa_cons (pe_callB (c_len K) (by rfl) T.n_len (by decide +kernel) (pa_cons (pv 1) pa_nil)) pa_nil))) (fun _ _ => rfl)))), ?_⟩)
  rcases vs with _ | ⟨v0, _ | ⟨v1, _ | ⟨v2, rest2⟩⟩⟩ <;> try exact h.elim
  rw [show L2.start ["_law_dice_here", "_law_items"] [v0, v1] = [some v0, some v1] from rfl]
  try dsimp only [cx_K]
  obtain ⟨d, l, xs, rfl, rfl, hd, hl, ne, h0, h1, q⟩ := h
  have h0 := Nat.le_of_ble_eq_true h0
  have h1 := Nat.le_of_ble_eq_true h1
  walk_at "rd"
  refine w_len_L hl ?_
  walk_at "rd"
  refine ⟨d, _, rfl, rfl, hd, by omega, by omega, fun r H' r0 r1 x hd' => ?_⟩
  have hr : r.toNat < xs.length := by omega
  have er : r = (r.toNat : Int) := by omega
  rw [er]
  refine w_ixL (sqL_D x hl ne) (atI_nat (List.getElem?_eq_getElem hr)) ?_
  exact q _ _ (List.getElem_mem hr) x hd'

def sp__law_nearest (K : PySem.W.Frag) : Sp := fun vs H Q _ => match vs with
  | [x, y] => ∃ a b, x = .int a ∧ y = .int b ∧ 0 < b ∧ b < 10 ^ 60 ∧ Q (.int (rnd a b)) H
  | _ => False
theorem ok__law_nearest {P : Program} {w : World} {K : PySem.W.Frag} {mg : Str → Option Value} {base : Heap} (T : Tx P K mg)  : Has P w K mg base 1 "_law_nearest" ["_law_number", "_law_by"] (sp__law_nearest K) := by
  refine Has.mk (k := 0) T.d__law_nearest T.g__law_nearest sc__law_nearest (fun _ _ _ _ _ _ us hl => match us, hl with | [_, _], _ => rfl) (fun vs H Q E h => by rcases vs with _ | ⟨v0, _ | ⟨v1, _ | ⟨v2, rest2⟩⟩⟩ <;> first | rfl | exact h.elim) (fun f cdv A outer s H vs Q E hr hgd h => have hu := hr.units; have hu66 := units66 hr; ⟨_, (pss_cons (ps_set (i := 2) sc__law_nearest.nd rfl (.inl rfl) (pe_op o_fd (pe_op (o_add K) (pe_op o_mul pe_int (pe_callB c_abs (by rfl) T.n_abs (by decide +kernel) (pa_cons (pv 0) pa_nil))) (pv 1)) (pe_op o_mul pe_int (pv 1)))) (pss_one (ps_ret (pe_ifExp (pt_cmpR o_ge (pv 0) pe_int (nomark _)) (pv 2) (pe_op o_sub pe_int (pv 2)))))), ?_⟩)
  rcases vs with _ | ⟨v0, _ | ⟨v1, _ | ⟨v2, rest2⟩⟩⟩ <;> try exact h.elim
  rw [show L2.start ["_law_number", "_law_by", "_law_found"] [v0, v1] = [some v0, some v1, none] from rfl]
  try dsimp only [cx_K]
  obtain ⟨a, b, rfl, rfl, h1, h2, q⟩ := h
  walk_at "rd"
  refine w_fd (div_ok h1 h2) ?_
  walk_at "rd"
  refine w_iteD (fun c => ?_) (fun c => ?_)
  · walk_at "rd"
    rw [rnd, if_pos c] at q
    exact q
  · walk_at "rd"
    rw [rnd, if_neg c, ← Int.zero_sub] at q
    exact q
def sp__law_drawn_length (K : PySem.W.Frag) : Sp := fun vs H Q _ => match vs with
  | [x] => ∃ d, x = .ref d ∧ Die H d ∧ ∀ i H', ab i ≤ 1073741823 → ExtD d H H' → Die H' d → Q (.int i) H'
  | _ => False
theorem ok__law_drawn_length {P : Program} {w : World} {K : PySem.W.Frag} {mg : Str → Option Value} {base : Heap} (T : Tx P K mg) (h__law_roll : Has P w K mg base 1 "_law_roll" ["_law_dice_here", "_law_total"] (sp__law_roll K)) : Has P w K mg base 2 "_law_drawn_length" ["_law_dice_here"] (sp__law_drawn_length K) := by
  refine Has.mk (k := 1) T.d__law_drawn_length T.g__law_drawn_length sc__law_drawn_length (fun _ _ _ _ _ _ us hl => match us, hl with | [_], _ => rfl) (fun vs H Q E h => by rcases vs with _ | ⟨v0, _ | ⟨v1, rest1⟩⟩ <;> first | rfl | exact h.elim) (fun f cdv A outer s H vs Q E hr hgd h => have hu := hr.units; have hu66 := units66 hr; ⟨_, (pss_cons (ps_set (i := 1) sc__law_drawn_length.nd rfl (.inl rfl) (pe_callH h__law_roll (hr.mono (by decide)) hgd (takes_of rfl rfl rfl rfl) (pa_cons (pv 0) (pa_cons pe_int pa_nil)))) (pss_cons (ps_if (pt_cmpR (o_eq K hu) (pv 1) pe_int (nomark _)) (pss_one (ps_set (i := 2) sc__law_drawn_length.nd rfl (.inl rfl) (pe_callH h__law_roll (hr.mono (by decide)) hgd (takes_of rfl rfl rfl rfl) (pa_cons (pv 0) (pa_cons pe_int pa_nil))))) (pss_one (ps_if (pt_cmpR (o_eq K hu) (pv 1) pe_int (nomark _)) (pss_one (ps_set (i := 2) sc__law_drawn_length.nd rfl (.inl rfl) (pe_op o_mul (pe_callH h__law_roll (hr.mono (by decide)) hgd (takes_of rfl rfl rfl rfl) (pa_cons (pv 0) (pa_cons pe_int pa_nil))) pe_int))) (pss_one (ps_if (pt_cmpR (o_eq K hu) (pv 1) pe_int (nomark _)) (pss_one (ps_set (i := 2) sc__law_drawn_length.nd rfl (.inl rfl) (pe_op o_sub (pe_op o_sub (pe_op o_pow pe_int pe_int) pe_int) (pe_callH h__law_roll (hr.mono (by decide)) hgd (takes_of rfl rfl rfl rfl) (pa_cons (pv 0) (pa_cons pe_int pa_nil)))))) (pss_one (ps_set (i := 2) sc__law_drawn_length.nd rfl (.inl rfl) (pe_callH h__law_roll (hr.mono (by decide)) hgd (takes_of rfl rfl rfl rfl) (pa_cons (pv 0) (pa_cons (pe_op o_mul pe_int pe_int) pa_nil)))))))))) (pss_one (ps_ret (pe_ifExp (pt_cmpR o_gt (pe_callH h__law_roll (hr.mono (by decide)) hgd (takes_of rfl rfl rfl rfl) (pa_cons (pv 0) (pa_cons pe_int pa_nil))) pe_int (nomark _)) (pv 2) (pe_op o_sub pe_int (pv 2))))))), ?_⟩)
  rcases vs with _ | ⟨v0, _ | ⟨v1, rest1⟩⟩ <;> try exact h.elim
  rw [show L2.start ["_law_dice_here", "_law_way", "_law_found"] [v0] = [some v0, none, none] from rfl]
  try dsimp only [cx_K]
  obtain ⟨d, rfl, hd, q⟩ := h
  walk_at "rd"
  refine ⟨d, 6, rfl, rfl, hd, by decide, by decide, fun r0 H0 l0 u0 x0 d0 => ?_⟩
  walk_at "rx"
  with_reducible refine w_seqH fun N hN => ?_
  have key : ∀ (i : Int) (H' : Hp), 0 ≤ i → i ≤ 1073741823 → ExtD d H0 H' → Die H' d → N [some (.ref d), some (.int r0), some (.int i)] H' := by
    intro i H' i0 i1 x1 d1
    rw [hN]
    walk_at "rd"
    refine ⟨d, 3, rfl, rfl, d1, by decide, by decide, fun r2 H2 l2 u2 x2 d2 => ?_⟩
    walk_at "rd"
    refine w_iteD (fun c => ?_) (fun c => ?_)
    · walk_at "rd"
      exact q _ _ (by unfold ab; split <;> omega) (x0.trans (x1.trans x2)) d2
    · walk_at "rd"
      exact q _ _ (by unfold ab; split <;> omega) (x0.trans (x1.trans x2)) d2
  walk_at "rd"
  refine w_iteD (fun c => ?_) (fun c => ?_)
  · walk_at "rd"
    refine ⟨d, 20, rfl, rfl, d0, by decide, by decide, fun r H1 l u x h => ?_⟩
    walk_at "rd"
    exact key _ _ l (by omega) x h
  walk_at "rd"
  refine w_iteD (fun c => ?_) (fun c => ?_)
  · walk_at "rd"
    refine ⟨d, 400, rfl, rfl, d0, by decide, by decide, fun r H1 l u x h => ?_⟩
    walk_at "rd"
    exact key _ _ (by omega) (by omega) x h
  walk_at "rd"
  refine w_iteD (fun c => ?_) (fun c => ?_)
  · walk_at "rd"
    refine ⟨d, 3, rfl, rfl, d0, by decide, by decide, fun r H1 l u x h => ?_⟩
    walk_at "rd"
    exact key _ _ (by show (0 : Int) ≤ 2 ^ Int.toNat 30 - 1 - r; simp; omega) (by show (2 : Int) ^ Int.toNat 30 - 1 - r ≤ _; simp; omega) x h
  walk_at "rd"
  refine ⟨d, 2621440, rfl, rfl, d0, by decide, by decide, fun r H1 l u x h => ?_⟩
  walk_at "rd"
  exact key _ _ (by omega) (by omega) x h
/-! ### what is due -/
def lenS : Str := "length"
def numS : Str := "number "
def dueV (x : V) (dy dz : PyData) : V :=
  if isL x = true then match dy with
    | .int b => match dz with
      | .int c => if c < 1 then .str (numS ++ dz.shown) else match x with
        | .int a => if ab (rnd (a * b) c) < 2 ^ 30 then .int (rnd (a * b) c) else .str lenS
        | _ => .str lenS
      | _ => .str (numS ++ dz.shown)
    | _ => .str (numS ++ dy.shown)
  else .str lenS
def okD (d : PyData) : Prop := d.showable = true ∧ d.hasDict = false ∧ d.depth ≤ 64 ∧ d.shown.length ≤ 2000 ∧ ∀ i, d = .int i → ab i < 10 ^ 60
def sp__law_told (K : PySem.W.Frag) : Sp := fun vs H Q _ => match vs with
  | [x, y, z] => ∃ dy dz, Kd H x ∧ Kd H y ∧ Kd H z ∧ Dp K H y dy ∧ Dp K H z dz ∧ okD dy ∧ okD dz ∧ ∀ H', Ext H H' → Q (dueV x dy dz) H'
  | _ => False
theorem ok__law_told {P : Program} {w : World} {K : PySem.W.Frag} {mg : Str → Option Value} {base : Heap} (T : Tx P K mg) (h_scaled : Has P w K mg base 4 "scaled" ["length", "times", "by"] (sp_scaled K)) : Has P w K mg base 5 "_law_told" ["_law_length", "_law_times", "_law_by"] (sp__law_told K) := by
  refine Has.mk (k := 4) T.d__law_told T.g__law_told sc__law_told (fun _ _ _ _ _ _ us hl => match us, hl with | [_, _, _], _ => rfl) (fun vs H Q E h => by rcases vs with _ | ⟨v0, _ | ⟨v1, _ | ⟨v2, _ | ⟨v3, rest3⟩⟩⟩⟩ <;> first | rfl | exact h.elim) (fun f cdv A outer s H vs Q E hr hgd h => have hu := hr.units; have hu66 := units66 hr; ⟨_, (pss_one (ps_try_mix rfl rfl (takes_of rfl rfl rfl rfl) (fun W pn xe tk pow => (pss_one (ps_ret (pe_callH h_scaled (hr.mono (by decide)) hgd tk (pa_cons (pv 0) (pa_cons (pv 1) (pa_cons (pv 2) pa_nil))))))) (.plain ⟨rfl, by decide, Or.inl T.g_InvalidLength⟩ (fun a oe cls d pn hz hf => (pss_one (ps_ret pe_str))) (.named (i := 3) sc__law_told.nd rfl rfl ⟨rfl, by decide, Or.inl T.g_InvalidNumber⟩ (fun a oe cls d pn hz hf => (pss_one (ps_ret (pe_op (o_add K) pe_str (pe_callB (c_repr K hgd hu66) (by rfl) T.n_repr (by decide +kernel) (pa_cons (pe_xf T.xf_InvalidNumber T.xn_InvalidNumber hz hf (pv 3)) pa_nil)))))) HdMix.nil)))), ?_⟩)
  rcases vs with _ | ⟨v0, _ | ⟨v1, _ | ⟨v2, _ | ⟨v3, rest3⟩⟩⟩⟩ <;> try exact h.elim
  rw [show L2.start ["_law_length", "_law_times", "_law_by", "e"] [v0, v1, v2] = [some v0, some v1, some v2, none] from rfl]
  try dsimp only [cx_K]
  obtain ⟨dy, dz, kx, ky, kz, py, pz, oy, oz, q⟩ := h
  walk_at "rd"
  have bad_len : ∀ H1, Ext H H1 → (dueV v0 dy dz = .str lenS) → WE (wMix K (fun cls d x H => E cls d H) { nx := fun x H' => Q V.non H', rt := Q }
        [(Value.ref (He.ga K "InvalidLength"), none, fun a cls d => tRet (tC (V.str "length"))), (Value.ref (He.ga K "InvalidNumber"), some 3, fun a cls d =>
            tRet (tOp (kAdd K) (tC (V.str "number ")) (tCB (rReprD K) (tCons (tXf a cls d (He.ga K "InvalidNumber") "value" (tVar 3)) tNil))))])
      [some v0, some v1, some v2, none] (CL K) none H1 := by
    intro H1 x e
    refine ⟨true, T.m_InvalidLength_InvalidLength, fun _ a ha => ?_, nofun⟩
    have := q H1 x
    rw [e] at this
    exact this
  have bad_num : ∀ y dd H1 d, H1 d = some (.xd [("value", y)]) → Ext H H1 → Dp K H1 y dd → okD dd → (dueV v0 dy dz = .str (numS ++ dd.shown)) → WE (wMix K (fun cls d x H => E cls d H) { nx := fun x H' => Q V.non H', rt := Q }
        [(Value.ref (He.ga K "InvalidLength"), none, fun a cls d => tRet (tC (V.str "length"))), (Value.ref (He.ga K "InvalidNumber"), some 3, fun a cls d =>
            tRet (tOp (kAdd K) (tC (V.str "number ")) (tCB (rReprD K) (tCons (tXf a cls d (He.ga K "InvalidNumber") "value" (tVar 3)) tNil))))])
      [some v0, some v1, some v2, none] (CN K) (some d) H1 := by
    intro y dd H1 d hd x pd od e
    refine ⟨false, T.m_InvalidNumber_InvalidLength, nofun, fun _ => ⟨true, T.m_InvalidNumber_InvalidNumber, fun _ a ha => ?_, nofun⟩⟩
    walk_at "rd"
    refine w_xf rfl hd rfl ?_
    walk_at "rd"
    refine w_repr pd od.1 od.2.1 od.2.2.1 (fitsB ?_) ?_
    · exact Nat.ble_eq_true_of_le (Nat.le_trans od.2.2.2.1 (by decide))
    walk_at "rd"
    refine w_add_s ?_ ?_
    · have := od.2.2.2.1
      rw [sizeLine_eq]
      show 7 + _ ≤ _
      omega
    have := q H1 x
    rw [e] at this
    exact this
  refine ⟨kx, ky, kz, ?_⟩
  unfold scR
  cases c : isL v0 with
  | false => exact bad_len _ Ext.refl (by unfold dueV; rw [if_neg (by rw [c]; decide)])
  | true =>
    have hn : ∀ (v : V) (d : PyData), Dp K H v d → (∀ i, d ≠ .int i) → isW v = false := by
      intro v d p n
      cases p <;> first | rfl | exact absurd rfl (n _)
    have hi : ∀ (v : V) (i : Int), Dp K H v (.int i) → v = .int i := by
      intro v i p
      cases p
      rfl
    by_cases iy : ∃ b, dy = .int b
    · obtain ⟨b, rfl⟩ := iy
      have ey := hi _ _ py
      subst ey
      have wy : isW (.int b) = true := decide_eq_true (oy.2.2.2.2 b rfl)
      rw [wy]
      by_cases iz : ∃ b, dz = .int b
      · obtain ⟨z, rfl⟩ := iz
        have ez := hi _ _ pz
        subst ez
        have wz : isW (.int z) = true := decide_eq_true (oz.2.2.2.2 z rfl)
        rw [wz]
        obtain ⟨a, rfl⟩ : ∃ a, v0 = .int a := by
          cases v0 <;> first | exact ⟨_, rfl⟩ | cases c
        dsimp only
        by_cases cz : z < 1
        · rw [if_pos cz]
          intro d hd
          exact bad_num _ _ _ _ upd_same (ext_upd hd) (.int z) oz (by unfold dueV; rw [if_pos c]; dsimp only; rw [if_pos cz])
        · rw [if_neg cz]
          by_cases cl : isL (.int (rnd (a * b) z)) = true
          · rw [if_pos cl]
            have := q H Ext.refl
            have cl2 : ab (rnd (a * b) z) < 2 ^ 30 := by
              have := of_decide_eq_true (show decide (ab (rnd (a * b) z) ≤ 1073741823) = true from cl)
              omega
            unfold dueV at this
            rw [if_pos c] at this
            dsimp only at this
            rw [if_neg cz, if_pos cl2] at this
            exact this
          · rw [if_neg cl]
            have cl2 : ¬ ab (rnd (a * b) z) < 2 ^ 30 := by
              intro z2
              exact cl (decide_eq_true (by omega))
            exact bad_len _ Ext.refl (by unfold dueV; rw [if_pos c]; dsimp only; rw [if_neg cz, if_neg cl2])
      · rw [hn _ _ pz (fun i e => iz ⟨i, e⟩)]
        intro d hd
        refine bad_num _ _ _ _ upd_same (ext_upd hd) (dp_ext (ext_upd hd) _ _ pz) oz ?_
        unfold dueV
        rw [if_pos c]
        cases dz <;> first | rfl | exact absurd ⟨_, rfl⟩ iz
    · rw [hn _ _ py (fun i e => iy ⟨i, e⟩)]
      intro d hd
      refine bad_num _ _ _ _ upd_same (ext_upd hd) (dp_ext (ext_upd hd) _ _ py) oy ?_
      unfold dueV
      rw [if_pos c]
      cases dy <;> first | rfl | exact absurd ⟨_, rfl⟩ iy
def sp__law_due (K : PySem.W.Frag) : Sp := fun vs H Q _ => match vs with
  | [x, y, z] => ∃ dy dz, Kd H x ∧ Kd H y ∧ Kd H z ∧ Dp K H y dy ∧ Dp K H z dz ∧ okD dy ∧ okD dz ∧ Q (dueV x dy dz) H
  | _ => False
theorem ok__law_due {P : Program} {w : World} {K : PySem.W.Frag} {mg : Str → Option Value} {base : Heap} (T : Tx P K mg) (h__law_nearest : Has P w K mg base 1 "_law_nearest" ["_law_number", "_law_by"] (sp__law_nearest K)) : Has P w K mg base 2 "_law_due" ["_law_length", "_law_times", "_law_by"] (sp__law_due K) := by
  refine Has.mk (k := 1) T.d__law_due T.g__law_due sc__law_due (fun _ _ _ _ _ _ us hl => match us, hl with | [_, _, _], _ => rfl) (fun vs H Q E h => by rcases vs with _ | ⟨v0, _ | ⟨v1, _ | ⟨v2, _ | ⟨v3, rest3⟩⟩⟩⟩ <;> first | rfl | exact h.elim) (fun f cdv A outer s H vs Q E hr hgd h => have hu := hr.units; have hu66 := units66 hr; ⟨_, (pss_cons (ps_if (PW.pt (pw_or (pt_val (pe_isi K T.n_isinstance (pv 0) (pe_ty (T := "bool") T.n_bool (by decide +kernel)))) (pw_or (pt_not (pt_val (pe_isi K T.n_isinstance (pv 0) (pe_ty (T := "int") T.n_int (by decide +kernel))))) (pw_or1 (pt_cmpR o_ge (pe_callB c_abs (by rfl) T.n_abs (by decide +kernel) (pa_cons (pv 0) pa_nil)) (pe_op o_pow pe_int pe_int) (nomark _)))))) (pss_one (ps_ret pe_str)) pss_nil) (pss_cons (ps_if (PW.pt (pw_or (pt_val (pe_isi K T.n_isinstance (pv 1) (pe_ty (T := "bool") T.n_bool (by decide +kernel)))) (pw_or1 (pt_not (pt_val (pe_isi K T.n_isinstance (pv 1) (pe_ty (T := "int") T.n_int (by decide +kernel)))))))) (pss_one (ps_ret (pe_op (o_add K) pe_str (pe_callB (c_repr K hgd hu66) (by rfl) T.n_repr (by decide +kernel) (pa_cons (pv 1) pa_nil))))) pss_nil) (pss_cons (ps_if (PW.pt (pw_or (pt_val (pe_isi K T.n_isinstance (pv 2) (pe_ty (T := "bool") T.n_bool (by decide +kernel)))) (pw_or (pt_not (pt_val (pe_isi K T.n_isinstance (pv 2) (pe_ty (T := "int") T.n_int (by decide +kernel))))) (pw_or1 (pt_cmpR o_lt (pv 2) pe_int (nomark _)))))) (pss_one (ps_ret (pe_op (o_add K) pe_str (pe_callB (c_repr K hgd hu66) (by rfl) T.n_repr (by decide +kernel) (pa_cons (pv 2) pa_nil))))) pss_nil) (pss_cons (ps_set (i := 3) sc__law_due.nd rfl (.inl rfl) (pe_callH h__law_nearest (hr.mono (by decide)) hgd (takes_of rfl rfl rfl rfl) (pa_cons (pe_op o_mul (pv 0) (pv 1)) (pa_cons (pv 2) pa_nil)))) (pss_one (ps_ret (pe_ifExp (pt_cmpR o_lt (pe_callB c_abs (by rfl) T.n_abs (by decide +kernel) (pa_cons (pv 3) pa_nil)) (pe_op o_pow pe_int pe_int) (nomark _)) (pv 3) pe_str))))))), ?_⟩)
  rcases vs with _ | ⟨v0, _ | ⟨v1, _ | ⟨v2, _ | ⟨v3, rest3⟩⟩⟩⟩ <;> try exact h.elim
  rw [show L2.start ["_law_length", "_law_times", "_law_by", "_law_found"] [v0, v1, v2] = [some v0, some v1, some v2, none] from rfl]
  try dsimp only [cx_K]
  obtain ⟨dy, dz, kx, ky, kz, py, pz, oy, oz, q⟩ := h
  walk_at "rd"
  have notL : ∀ (v : V), isL v = false → Q (dueV v dy dz) H → Q (.str "length") H := by
    intro v c q
    unfold dueV at q
    rw [if_neg (by rw [c]; decide)] at q
    exact q
  cases v0 <;> try exact kx.elim
  all_goals (walk_at "rd"; try exact notL _ rfl q)
  rename_i a
  refine w_iteD (fun c => ?_) (fun c => ?_)
  · walk_at "rd"
    refine notL _ ?_ q
    exact decide_eq_false (by simp at c; omega)
  have cl : isL (.int a) = true := decide_eq_true (by simp at c; omega)
  have ca : ab a ≤ 1073741823 := of_decide_eq_true cl
  unfold dueV at q
  rw [if_pos cl] at q
  walk_at "rd"
  have fin : ∀ (v : V) (dd : PyData) (C : VK), Dp K H v dd → okD dd → C (.str (numS ++ dd.shown)) H → rReprD K [v] H fun y H2 => kAdd K (.str "number ") y H2 C := by
    intro v dd C pd od hq
    refine w_repr pd od.1 od.2.1 od.2.2.1 (fitsB ?_) ?_
    · exact Nat.ble_eq_true_of_le (Nat.le_trans od.2.2.2.1 (by decide))
    refine w_add_s ?_ hq
    have := od.2.2.2.1
    rw [sizeLine_eq]
    show 7 + _ ≤ _
    omega
  cases py with
  | non => walk_at "rd"; exact fin _ _ _ .non oy q
  | bl b => walk_at "rd"; exact fin _ _ _ (.bl b) oy q
  | str b => walk_at "rd"; exact fin _ _ _ (.str b) oy q
  | lst h1 h2 => walk_at "rd"; exact fin _ _ _ (.lst h1 h2) oy q
  | tup h1 h2 => walk_at "rd"; exact fin _ _ _ (.tup h1 h2) oy q
  | int b =>
    walk_at "rd"
    cases pz with
    | non => walk_at "rd"; exact fin _ _ _ .non oz q
    | bl b => walk_at "rd"; exact fin _ _ _ (.bl b) oz q
    | str b => walk_at "rd"; exact fin _ _ _ (.str b) oz q
    | lst h1 h2 => walk_at "rd"; exact fin _ _ _ (.lst h1 h2) oz q
    | tup h1 h2 => walk_at "rd"; exact fin _ _ _ (.tup h1 h2) oz q
    | int z =>
      walk_at "rd"
      dsimp only at q
      refine w_iteD (fun c => ?_) (fun c => ?_)
      · walk_at "rd"
        rw [if_pos c] at q
        exact fin _ _ _ (.int z) oz q
      rw [if_neg c] at q
      walk_at "rd"
      have cz := oz.2.2.2.2 z rfl
      have ca2 : -(2 ^ 64) < a ∧ a < 2 ^ 64 := by
        unfold ab at ca
        split at ca <;> omega
      refine w_mul_l ca2 ?_
      walk_at "rd"
      refine ⟨_, _, rfl, rfl, by omega, by unfold ab at cz; split at cz <;> omega, ?_⟩
      walk_at "rd"
      refine w_iteD (fun c2 => ?_) (fun c2 => ?_)
      · walk_at "rd"
        rw [if_pos (by simpa using c2)] at q
        exact q
      · walk_at "rd"
        rw [if_neg (by simpa using c2)] at q
        exact q
def sp__law_is_refused (K : PySem.W.Frag) : Sp := fun vs H Q _ => match vs with
  | [x] => Kd H x ∧ isL x = false ∧ Q (.bl true) H
  | _ => False
theorem ok__law_is_refused {P : Program} {w : World} {K : PySem.W.Frag} {mg : Str → Option Value} {base : Heap} (T : Tx P K mg) (h_text_of_length : Has P w K mg base 4 "text_of_length" ["length"] (sp_text_of_length K)) : Has P w K mg base 5 "_law_is_refused" ["_law_value"] (sp__law_is_refused K) := by
  refine Has.mk (k := 4) T.d__law_is_refused T.g__law_is_refused sc__law_is_refused (fun _ _ _ _ _ _ us hl => match us, hl with | [_], _ => rfl) (fun vs H Q E h => by rcases vs with _ | ⟨v0, _ | ⟨v1, rest1⟩⟩ <;> first | rfl | exact h.elim) (fun f cdv A outer s H vs Q E hr hgd h => have hu := hr.units; have hu66 := units66 hr; ⟨_, (pss_cons (ps_try_mix rfl rfl (takes_of rfl rfl rfl rfl) (fun W pn xe tk pow => (pss_one (ps_expr (pe_callH h_text_of_length (hr.mono (by decide)) hgd tk (pa_cons (pv 0) pa_nil))))) (.plain ⟨rfl, by decide, Or.inl T.g_InvalidLength⟩ (fun a oe cls d pn hz hf => (pss_one (ps_ret pe_bl))) HdMix.nil)) (pss_one (ps_ret pe_bl))), ?_⟩)
  rcases vs with _ | ⟨v0, _ | ⟨v1, rest1⟩⟩ <;> try exact h.elim
  rw [show L2.start ["_law_value"] [v0] = [some v0] from rfl]
  try dsimp only [cx_K]
  obtain ⟨kx, c, q⟩ := h
  walk_at "rd"
  refine ⟨kx, c, true, T.m_InvalidLength_InvalidLength, fun _ a ha => ?_, nofun⟩
  walk_at "rd"
  exact q
theorem okD_int {i : Int} (h : ab i < 10 ^ 60) : okD (.int i) := by
  obtain ⟨a, b, c, d⟩ := int_show h
  exact ⟨a, b, c, by omega, fun j e => by cases e; exact h⟩
theorem ab_neg (i : Int) : ab (0 - i) = ab i := by unfold ab; split <;> split <;> omega
theorem ab_neg' (i : Int) : ab (-i) = ab i := by unfold ab; split <;> split <;> omega
theorem rnd_neg (i t b : Int) (hb : 1 ≤ b) : rnd ((0 - i) * t) b = -rnd (i * t) b := by
  have e : (0 - i) * t = -(i * t) := by rw [Int.zero_sub, Int.neg_mul]
  rw [e]
  generalize i * t = n
  unfold rnd
  rw [ab_neg']
  by_cases h : n = 0
  · subst h
    have z : (2 * ab 0 + b) / (2 * b) = 0 := by
      have : ab 0 = 0 := rfl
      rw [this]
      exact Int.ediv_eq_zero_of_lt (by omega) (by omega)
    rw [z]
    rfl
  · by_cases h2 : 0 ≤ n
    · rw [if_neg (by omega), if_pos h2]
    · rw [if_pos (by omega), if_neg h2, Int.neg_neg]
theorem okD_of {dd : PyData} (h1 : dd.showable = true) (h2 : dd.hasDict = false) (h3 : Nat.ble dd.depth 64 = true) (h4 : Nat.ble dd.shown.length 2000 = true) (h5 : ∀ i, dd = .int i → ab i < 10 ^ 60) : okD dd := ⟨h1, h2, Nat.le_of_ble_eq_true h3, Nat.le_of_ble_eq_true h4, h5⟩
/-- both results of a length and its opposite -/
theorem due_two {i t b : Int} (hi : ab i ≤ 1073741823) (hb : 1 ≤ b) : (∃ f, ab f < 2 ^ 30 ∧ dueV (.int i) (.int t) (.int b) = .int f ∧ dueV (.int (0 - i)) (.int t) (.int b) = .int (-f)) ∨ (dueV (.int i) (.int t) (.int b) = .str lenS ∧ dueV (.int (0 - i)) (.int t) (.int b) = .str lenS) := by
  have c1 : isL (.int i) = true := decide_eq_true hi
  have c2 : isL (.int (0 - i)) = true := decide_eq_true (by rw [ab_neg]; exact hi)
  have c3 : ¬ b < 1 := by omega
  unfold dueV
  rw [if_pos c1, if_pos c2]
  dsimp only
  rw [if_neg c3, if_neg c3, rnd_neg _ _ _ hb, ab_neg']
  by_cases c : ab (rnd (i * t) b) < 2 ^ 30
  · exact .inl ⟨_, c, by rw [if_pos c], by rw [if_pos c]⟩
  · exact .inr ⟨by rw [if_neg c], by rw [if_neg c]⟩
def sp__law_right (K : PySem.W.Frag) : Sp := fun vs H Q _ => match vs with
  | [x] => ∃ d, x = .ref d ∧ Die H d ∧ ∀ H', ExtD d H H' → Die H' d → Q (.bl true) H'
  | _ => False
theorem ok__law_right {P : Program} {w : World} {K : PySem.W.Frag} {mg : Str → Option Value} {base : Heap} (T : Tx P K mg) (h__law_is_refused : Has P w K mg base 5 "_law_is_refused" ["_law_value"] (sp__law_is_refused K)) (h__law_pick : Has P w K mg base 2 "_law_pick" ["_law_dice_here", "_law_items"] (sp__law_pick K)) (h__law_told : Has P w K mg base 5 "_law_told" ["_law_length", "_law_times", "_law_by"] (sp__law_told K)) (h__law_due : Has P w K mg base 2 "_law_due" ["_law_length", "_law_times", "_law_by"] (sp__law_due K)) (h__law_roll : Has P w K mg base 1 "_law_roll" ["_law_dice_here", "_law_total"] (sp__law_roll K)) (h__law_drawn_length : Has P w K mg base 2 "_law_drawn_length" ["_law_dice_here"] (sp__law_drawn_length K)) : Has P w K mg base 6 "_law_right" ["_law_dice_here"] (sp__law_right K) := by
  refine Has.mk (k := 5) T.d__law_right T.g__law_right sc__law_right (fun _ _ _ _ _ _ us hl => match us, hl with | [_], _ => rfl) (fun vs H Q E h => by rcases vs with _ | ⟨v0, _ | ⟨v1, rest1⟩⟩ <;> first | rfl | exact h.elim) (fun f cdv A outer s H vs Q E hr hgd h => have hu := hr.units; have hu66 := units66 hr; ⟨_, (pss_cons (ps_set (i := 1) sc__law_right.nd rfl (.inl rfl) (pe_callH h__law_drawn_length (hr.mono (by decide)) hgd (takes_of rfl rfl rfl rfl) (pa_cons (pv 0) pa_nil))) (pss_cons (ps_set (i := 2) sc__law_right.nd rfl (.inl rfl) (pe_callH h__law_pick (hr.mono (by decide)) hgd (takes_of rfl rfl rfl rfl) (pa_cons (pv 0) (pa_cons (pe_lst (pa_cons pe_int (pa_cons pe_int (pa_cons pe_int (pa_cons (pe_un un_neg pe_int) (pa_cons pe_int (pa_cons pe_int (pa_cons (pe_op o_pow pe_int pe_int) (pa_cons (pe_callH h__law_roll (hr.mono (by decide)) hgd (takes_of rfl rfl rfl rfl) (pa_cons (pv 0) (pa_cons pe_int pa_nil))) (pa_cons (pe_op o_pow pe_int pe_int) pa_nil)))))))))) pa_nil)))) (pss_cons (ps_set (i := 3) sc__law_right.nd rfl (.inl rfl) (pe_callH h__law_pick (hr.mono (by decide)) hgd (takes_of rfl rfl rfl rfl) (pa_cons (pv 0) (pa_cons (pe_lst (pa_cons pe_int (pa_cons pe_int (pa_cons pe_int (pa_cons pe_int (pa_cons pe_int (pa_cons pe_int (pa_cons (pe_op o_pow pe_int pe_int) (pa_cons (pe_op (o_add K) pe_int (pe_callH h__law_roll (hr.mono (by decide)) hgd (takes_of rfl rfl rfl rfl) (pa_cons (pv 0) (pa_cons pe_int pa_nil)))) (pa_cons (pe_op o_pow pe_int pe_int) pa_nil)))))))))) pa_nil)))) (pss_cons (ps_if (pt_cmpR (o_ne K hu) (pe_callB (c_repr K hgd hu66) (by rfl) T.n_repr (by decide +kernel) (pa_cons (pe_callH h__law_told (hr.mono (by decide)) hgd (takes_of rfl rfl rfl rfl) (pa_cons (pv 1) (pa_cons (pv 2) (pa_cons (pv 3) pa_nil)))) pa_nil)) (pe_callB (c_repr K hgd hu66) (by rfl) T.n_repr (by decide +kernel) (pa_cons (pe_callH h__law_due (hr.mono (by decide)) hgd (takes_of rfl rfl rfl rfl) (pa_cons (pv 1) (pa_cons (pv 2) (pa_cons (pv 3) pa_nil)))) pa_nil)) (nomark _)) (pss_one (ps_ret pe_bl)) pss_nil) (pss_cons (ps_par (i := 4) (j := 5) (by rfl) sc__law_right.nd rfl rfl (by decide) rfl rfl (pa_cons (pe_callH h__law_told (hr.mono (by decide)) hgd (takes_of rfl rfl rfl rfl) (pa_cons (pv 1) (pa_cons (pv 2) (pa_cons (pv 3) pa_nil)))) (pa_cons (pe_callH h__law_told (hr.mono (by decide)) hgd (takes_of rfl rfl rfl rfl) (pa_cons (pe_op o_sub pe_int (pv 1)) (pa_cons (pv 2) (pa_cons (pv 3) pa_nil)))) pa_nil)) (by rfl)) (pss_cons (ps_if (PW.pt (pw_or (PW.pt (pw_and (pt_cmpR (o_ne K hu) (pv 4) pe_str (nomark _)) (pw_and1 (pt_cmpR (o_ne K hu) (pv 5) (pe_op o_sub pe_int (pv 4)) (nomark _))))) (pw_or1 (pt_cmpR (o_ne K hu) (pe_cmpR (o_eq K hu) (pv 4) pe_str (nomark _)) (pe_cmpR (o_eq K hu) (pv 5) pe_str (nomark _)) (nomark _))))) (pss_one (ps_ret pe_bl)) pss_nil) (pss_cons (ps_set (i := 6) sc__law_right.nd rfl (.inl rfl) (pe_lst (pa_cons (pe_callH h__law_pick (hr.mono (by decide)) hgd (takes_of rfl rfl rfl rfl) (pa_cons (pv 0) (pa_cons (pe_lst (pa_cons (pv 1) (pa_cons (pv 1) (pa_cons pe_non (pa_cons pe_str (pa_cons (pe_tup (pa_cons pe_int pa_nil)) (pa_cons pe_bl (pa_cons (pe_op o_pow pe_int pe_int) (pa_cons (pe_lst pa_nil) (pa_cons pe_dnewK (pa_cons (pe_op o_pow pe_int pe_int) pa_nil))))))))))) pa_nil))) pa_nil))) (pss_cons (ps_expr (pe_bm PySem.F.plainAttrs_list PySem.F.slot_list_append PySem.F.type_list_append mt_append (pv 6) (pa_cons (pe_callH h__law_pick (hr.mono (by decide)) hgd (takes_of rfl rfl rfl rfl) (pa_cons (pv 0) (pa_cons (pe_lst (pa_cons pe_int (pa_cons pe_int (pa_cons pe_non (pa_cons pe_bl (pa_cons pe_str (pa_cons (pe_tup (pa_cons pe_int pa_nil)) pa_nil))))))) pa_nil))) pa_nil))) (pss_cons (ps_expr (pe_bm PySem.F.plainAttrs_list PySem.F.slot_list_append PySem.F.type_list_append mt_append (pv 6) (pa_cons (pe_callH h__law_pick (hr.mono (by decide)) hgd (takes_of rfl rfl rfl rfl) (pa_cons (pv 0) (pa_cons (pe_lst (pa_cons pe_int (pa_cons pe_int (pa_cons pe_int (pa_cons (pe_un un_neg pe_int) (pa_cons pe_bl (pa_cons pe_non (pa_cons pe_str (pa_cons (pe_lst pa_nil) pa_nil))))))))) pa_nil))) pa_nil))) (pss_cons (ps_if (pt_cmpR (o_ne K hu) (pe_callB (c_repr K hgd hu66) (by rfl) T.n_repr (by decide +kernel) (pa_cons (pe_callH h__law_told (hr.mono (by decide)) hgd (takes_of rfl rfl rfl rfl) (pa_cons (pe_ix (ixA K) (pv 6) pe_int (fun _ _ => rfl)) (pa_cons (pe_ix (ixA K) (pv 6) pe_int (fun _ _ => rfl)) (pa_cons (pe_ix (ixA K) (pv 6) pe_int (fun _ _ => rfl)) pa_nil)))) pa_nil)) (pe_callB (c_repr K hgd hu66) (by rfl) T.n_repr (by decide +kernel) (pa_cons (pe_callH h__law_due (hr.mono (by decide)) hgd (takes_of rfl rfl rfl rfl) (pa_cons (pe_ix (ixA K) (pv 6) pe_int (fun _ _ => rfl)) (pa_cons (pe_ix (ixA K) (pv 6) pe_int (fun _ _ => rfl)) (pa_cons (pe_ix (ixA K) (pv 6) pe_int (fun _ _ => rfl)) pa_nil)))) pa_nil)) (nomark _)) (pss_one (ps_ret pe_bl)) pss_nil) (pss_one (ps_ret (pe_callH h__law_is_refused (hr.mono (by decide)) hgd (takes_of rfl rfl rfl rfl) (pa_cons (pe_callH h__law_pick (hr.mono (by decide)) hgd (takes_of rfl rfl rfl rfl) (pa_cons (pv 0) (pa_cons (pe_lst (pa_cons pe_non (pa_cons pe_str (pa_cons pe_bl (pa_cons (pe_op o_pow pe_int pe_int) (pa_cons (pe_op o_sub pe_int (pe_op o_pow pe_int pe_int)) (pa_cons (pe_tup (pa_cons pe_int pa_nil)) (pa_cons (pe_op o_pow pe_int pe_int) (pa_cons (pe_lst pa_nil) pa_nil))))))))) pa_nil))) pa_nil)))))))))))))), ?_⟩)
  rcases vs with _ | ⟨v0, _ | ⟨v1, rest1⟩⟩ <;> try exact h.elim
  rw [show L2.start ["_law_dice_here", "_law_length", "_law_times", "_law_by", "_law_one", "_law_other", "_law_bad"] [v0] = [some v0, none, none, none, none, none, none] from rfl]
  try dsimp only [cx_K]
  obtain ⟨d, rfl, hd, q⟩ := h
  walk_at "rd"
  refine ⟨d, rfl, hd, fun i H1 hi x1 d1 => ?_⟩
  walk_at "rd"
  refine ⟨d, 500, rfl, rfl, d1, by decide, by decide, fun r2 H2 l2 u2 x2 d2 => ?_⟩
  walk_at "rd"
  refine w_newL (by rfl) fun p3 H3 n3 x3 h3 _ => ?_
  walk_at "rd"
  refine ⟨d, p3, _, rfl, rfl, d2.ext x3, SqL.of h3, d2.ne n3, by rfl, by rfl, fun v H4 m4 x4 d4 => ?_⟩
  obtain ⟨t, rfl, ht⟩ : ∃ t, v = .int t ∧ ab t < 10 ^ 60 := by
    simp only [List.mem_cons, List.not_mem_nil, or_false] at m4
    rcases m4 with rfl | rfl | rfl | rfl | rfl | rfl | rfl | rfl | rfl
    all_goals first | exact ⟨_, rfl, by decide⟩ | exact ⟨_, rfl, by unfold ab; split <;> omega⟩
  walk_at "rd"
  refine ⟨d, 500, rfl, rfl, d4, by decide, by decide, fun r5 H5 l5 u5 x5 d5 => ?_⟩
  walk_at "rd"
  refine w_newL (by rfl) fun p6 H6 n6 x6 h6 _ => ?_
  walk_at "rd"
  refine ⟨d, p6, _, rfl, rfl, d5.ext x6, SqL.of h6, d5.ne n6, by rfl, by rfl, fun v H7 m7 x7 d7 => ?_⟩
  obtain ⟨b, rfl, hb, hb1⟩ : ∃ t, v = .int t ∧ ab t < 10 ^ 60 ∧ 1 ≤ t := by
    simp only [List.mem_cons, List.not_mem_nil, or_false] at m7
    rcases m7 with rfl | rfl | rfl | rfl | rfl | rfl | rfl | rfl | rfl
    all_goals first | exact ⟨_, rfl, by decide, by decide⟩ | exact ⟨_, rfl, by unfold ab; split <;> omega, by omega⟩
  walk_at "rd"
  -- told and due alike
  have shV : ∀ (v : V) (Hx : Hp), (∃ f, ab f < 2 ^ 30 ∧ v = .int f) ∨ (∃ z : Str, v = .str z ∧ (PyData.str z).shown.length ≤ 20000) → ∃ dd, Dp K Hx v dd ∧ dd.showable = true ∧ dd.hasDict = false ∧ dd.depth ≤ 64 ∧ dd.shown.length ≤ sizeLine := by
    rintro v Hx (⟨f, hf, rfl⟩ | ⟨z, rfl, hz⟩)
    · obtain ⟨a1, a2, a3, a4⟩ := int_show (i := f) (by omega)
      exact ⟨_, .int f, a1, a2, a3, fitsB (Nat.ble_eq_true_of_le (by omega))⟩
    · exact ⟨_, .str z, rfl, rfl, by simp [PyData.depth], fitsB (Nat.ble_eq_true_of_le (by omega))⟩
  have tw := due_two (t := t) hi hb1
  refine ⟨.int t, .int b, trivial, trivial, trivial, .int t, .int b, okD_int ht, okD_int hb, fun H8 x8 => ?_⟩
  have kind : (∃ f, ab f < 2 ^ 30 ∧ dueV (.int i) (.int t) (.int b) = .int f) ∨ (∃ z : Str, dueV (.int i) (.int t) (.int b) = .str z ∧ (PyData.str z).shown.length ≤ 20000) := by
    rcases tw with ⟨f, h1, h2, _⟩ | ⟨h1, _⟩
    · exact .inl ⟨f, h1, h2⟩
    · exact .inr ⟨_, h1, by decide +kernel⟩
  obtain ⟨dd, e1, e2, e3, e4, e5⟩ := shV _ H8 kind
  walk_at "rd"
  refine w_repr e1 e2 e3 e4 e5 ?_
  walk_at "rd"
  refine ⟨.int t, .int b, trivial, trivial, trivial, .int t, .int b, okD_int ht, okD_int hb, ?_⟩
  walk_at "rd"
  refine w_repr e1 e2 e3 e4 e5 ?_
  walk_at "rd"
  refine ⟨.int t, .int b, trivial, trivial, trivial, .int t, .int b, okD_int ht, okD_int hb, fun H9 x9 => ?_⟩
  walk_at "rd"
  refine ⟨.int t, .int b, trivial, trivial, trivial, .int t, .int b, okD_int ht, okD_int hb, fun H10 x10 => ?_⟩
  walk_at "rd"
  refine ⟨_, _, rfl, ?_⟩
  walk_at "rx"
  have d10 : Die H10 d := ((d7.ext x8).ext x9).ext x10
  have xa : ExtD d H H10 := x1.trans (x2.trans (x3.d.trans (x4.trans (x5.trans (x6.d.trans (x7.trans (x8.d.trans (x9.d.trans x10.d))))))))
  with_reducible refine w_seqH fun N hN => ?_
  suffices key : N [some (.ref d), some (.int i), some (.int t), some (.int b), some (dueV (.int i) (.int t) (.int b)), some (dueV (.int (0 - i)) (.int t) (.int b)), none] H10 by
    rcases tw with ⟨f, h1, h2, h3⟩ | ⟨h1, h2⟩
    · rw [h2, h3] at key ⊢
      walk_at "rd"
      refine w_iteDt (by omega) ?_
      walk_at "rd"
      exact key
    · rw [h1, h2] at key ⊢
      walk_at "rd"
      exact key
  rw [hN]
  walk_at "rd"
  refine w_newT (by rfl) fun p11 H11 n11 x11 h11 _ => ?_
  walk_at "rd"
  refine w_newL (by rfl) fun p12 H12 n12 x12 h12 _ => ?_
  walk_at "rd"
  refine w_dnew fun p13 H13 n13 x13 h13 => ?_
  walk_at "rd"
  refine w_newL (by rfl) fun p14 H14 n14 x14 h14 _ => ?_
  walk_at "rd"
  have d13 : Die H13 d := ((d10.ext x11).ext x12).ext x13
  refine ⟨d, p14, _, rfl, rfl, d13.ext x14, SqL.of h14, d13.ne n14, by rfl, by rfl, fun v15 H15 m15 x15 d15 => ?_⟩
  have k15 : Kd H15 v15 := by
    have r15 := x15.r (d13.ext x14)
    simp only [List.mem_cons, List.not_mem_nil, or_false] at m15
    rcases m15 with rfl | rfl | rfl | rfl | rfl | rfl | rfl | rfl | rfl | rfl
    all_goals first | exact True.intro | exact Kd.ext r15 ⟨_, x14 _ _ (x13 _ _ (x12 _ _ h11)), rfl⟩ | exact Kd.ext r15 ⟨_, x14 _ _ (x13 _ _ h12), rfl⟩ | exact Kd.ext r15 ⟨_, x14 _ _ h13, rfl⟩
  walk_at "rd"
  -- the list of wrong values
  refine w_newL (by rfl) fun l H16 n16 x16 h16 _ => ?_
  walk_at "rd"
  refine ⟨tyL (SqL.of h16), ?_⟩
  walk_at "rd"
  have d16 : Die H16 d := d15.ext x16
  have dl : d ≠ l := (d15.ne n16).symm
  have ne15 : v15 ≠ .ref l := k15.fresh n16
  have k16 : Kd H16 v15 := k15.ext x16.r
  refine w_newT (by rfl) fun p17 H17 n17 x17 h17 _ => ?_
  walk_at "rd"
  refine w_newL (by rfl) fun p18 H18 n18 x18 h18 _ => ?_
  walk_at "rd"
  have d17 : Die H17 d := d16.ext x17
  refine ⟨d, p18, _, rfl, rfl, d17.ext x18, SqL.of h18, d17.ne n18, by rfl, by rfl, fun v19 H19 m19 x19 d19 => ?_⟩
  have l19 : H19 l = some (.lst [v15]) := x19 _ _ dl.symm (x18 _ _ (x17 _ _ h16))
  have k19 : Kd H19 v15 := ((k16.ext x17.r).ext x18.r).ext (x19.r (d17.ext x18))
  obtain ⟨d2, p2, o2, f2, k2, ne2, b2⟩ : ∃ dd, Dp K H19 v19 dd ∧ okD dd ∧ flatD dd = true ∧ Kd H19 v19 ∧ v19 ≠ .ref l ∧ Nat.ble (PyData.str (numS ++ dd.shown)).shown.length 20000 = true := by
    have t19 : H19 p17 = some (.tup [.int 1]) := x19 _ _ ((d17.neL h17 rfl)) (x18 _ _ h17)
    have nl : p17 ≠ l := fun z => by rw [z, h16] at n17; cases n17
    simp only [List.mem_cons, List.not_mem_nil, or_false] at m19
    rcases m19 with rfl | rfl | rfl | rfl | rfl | rfl
    · exact ⟨_, .int _, okD_int (by decide), rfl, trivial, nofun, by decide +kernel⟩
    · exact ⟨_, .int _, okD_int (by decide), rfl, trivial, nofun, by decide +kernel⟩
    · exact ⟨_, .non, okD_of rfl rfl rfl rfl nofun, rfl, trivial, nofun, by decide +kernel⟩
    · exact ⟨_, .bl _, okD_of rfl rfl rfl rfl nofun, rfl, trivial, nofun, by decide +kernel⟩
    · exact ⟨_, .str _, okD_of (by decide +kernel) (by decide +kernel) (by decide +kernel) (by decide +kernel) nofun, rfl, trivial, nofun, by decide +kernel⟩
    · exact ⟨_, .tup (SqT.of t19) (.cons (.int 1) .nil), okD_of (by decide +kernel) (by decide +kernel) (by decide +kernel) (by decide +kernel) nofun, rfl, ⟨_, t19, rfl⟩, fun z => nl (V.ref.inj z), by decide +kernel⟩
  walk_at "rd"
  refine w_appendX l19 (by rw [sizeLine_eq]; show 1 < 16777216; decide) fun H20 x20 l20 => ?_
  have d20 : Die H20 d := d19.extD x20 dl
  have k20 : Kd H20 v15 := k19.extD x20 ne15
  have k20b : Kd H20 v19 := k2.extD x20 ne2
  have p20 : Dp K H20 v19 d2 := dp_flat x20 f2 p2 ne2
  walk_at "rd"
  refine ⟨tyL (SqL.of l20), ?_⟩
  walk_at "rd"
  refine w_newL (by rfl) fun p21 H21 n21 x21 h21 _ => ?_
  walk_at "rd"
  refine w_newL (by rfl) fun p22 H22 n22 x22 h22 _ => ?_
  walk_at "rd"
  have d21 : Die H21 d := d20.ext x21
  refine ⟨d, p22, _, rfl, rfl, d21.ext x22, SqL.of h22, d21.ne n22, by rfl, by rfl, fun v23 H23 m23 x23 d23 => ?_⟩
  have l23 : H23 l = some (.lst [v15, v19]) := x23 _ _ dl.symm (x22 _ _ (x21 _ _ l20))
  have r23 : ExtR H20 H23 := (x21.r.trans x22.r).trans (x23.r (d21.ext x22))
  have k23 : Kd H23 v15 := k20.ext r23
  have k23b : Kd H23 v19 := k20b.ext r23
  obtain ⟨d3, p3b, o3, f3, k3, ne3, b3⟩ : ∃ dd, Dp K H23 v23 dd ∧ okD dd ∧ flatD dd = true ∧ Kd H23 v23 ∧ v23 ≠ .ref l ∧ Nat.ble (PyData.str (numS ++ dd.shown)).shown.length 20000 = true := by
    have t23 : H23 p21 = some (.lst []) := x23 _ _ ((d21.neL h21 rfl)) (x22 _ _ h21)
    have nl : p21 ≠ l := fun z => by rw [z, l20] at n21; cases n21
    simp only [List.mem_cons, List.not_mem_nil, or_false] at m23
    rcases m23 with rfl | rfl | rfl | rfl | rfl | rfl | rfl | rfl
    · exact ⟨_, .int _, okD_int (by decide), rfl, trivial, nofun, by decide +kernel⟩
    · exact ⟨_, .int _, okD_int (by decide), rfl, trivial, nofun, by decide +kernel⟩
    · exact ⟨_, .int _, okD_int (by decide), rfl, trivial, nofun, by decide +kernel⟩
    · exact ⟨_, .int _, okD_int (by decide), rfl, trivial, nofun, by decide +kernel⟩
    · exact ⟨_, .bl _, okD_of rfl rfl rfl rfl nofun, rfl, trivial, nofun, by decide +kernel⟩
    · exact ⟨_, .non, okD_of rfl rfl rfl rfl nofun, rfl, trivial, nofun, by decide +kernel⟩
    · exact ⟨_, .str _, okD_of (by decide +kernel) (by decide +kernel) (by decide +kernel) (by decide +kernel) nofun, rfl, trivial, nofun, by decide +kernel⟩
    · exact ⟨_, .lst (SqL.of t23) .nil, okD_of (by decide +kernel) (by decide +kernel) (by decide +kernel) (by decide +kernel) nofun, rfl, ⟨_, t23, rfl⟩, fun z => nl (V.ref.inj z), by decide +kernel⟩
  have p23 : Dp K H23 v19 d2 := by
    have e1 : Dp K H22 v19 d2 := dp_ext (x21.trans x22) _ _ p20
    have nd : v19 ≠ .ref d := by
      intro z
      rw [z] at k20b
      obtain ⟨o, e1, e2⟩ := k20b
      exact d20.neL e1 (plain_noDie e2) rfl
    exact dp_flat x23 f2 e1 nd
  walk_at "rd"
  refine w_appendX l23 (by rw [sizeLine_eq]; show 2 < 16777216; decide) fun H24 x24 l24 => ?_
  have d24 : Die H24 d := d23.extD x24 dl
  have S24 := SqL.of (K := K) l24
  have a0 : atI ([v15, v19] ++ [v23]) 0 = some v15 := rfl
  have a1 : atI ([v15, v19] ++ [v23]) 1 = some v19 := rfl
  have a2 : atI ([v15, v19] ++ [v23]) 2 = some v23 := rfl
  walk_at "rd"
  refine w_ixL S24 a0 ?_
  walk_at "rd"
  refine w_ixL S24 a1 ?_
  walk_at "rd"
  refine w_ixL S24 a2 ?_
  walk_at "rd"
  have q1 := dp_flat x24 f2 p23 ne2
  have q2 := dp_flat x24 f3 p3b ne3
  refine ⟨d2, d3, k23.extD x24 ne15, k23b.extD x24 ne2, k3.extD x24 ne3, q1, q2, o2, o3, fun H25 x25 => ?_⟩
  have kindB : (∃ f, ab f < 2 ^ 30 ∧ dueV v15 d2 d3 = .int f) ∨ (∃ z : Str, dueV v15 d2 d3 = .str z ∧ (PyData.str z).shown.length ≤ 20000) := by
    have b2' := Nat.le_of_ble_eq_true b2
    have b3' := Nat.le_of_ble_eq_true b3
    have bl : (PyData.str lenS).shown.length ≤ 20000 := by decide +kernel
    unfold dueV
    by_cases c : isL v15 = true
    · rw [if_pos c]
      cases d2 with
      | int t2 =>
        cases d3 with
        | int b2 =>
          dsimp only
          by_cases cz : b2 < 1
          · rw [if_pos cz]
            exact .inr ⟨_, rfl, b3'⟩
          · rw [if_neg cz]
            cases v15 with
            | int a =>
              dsimp only
              by_cases cf : ab (rnd (a * t2) b2) < 2 ^ 30
              · rw [if_pos cf]
                exact .inl ⟨_, cf, rfl⟩
              · rw [if_neg cf]
                exact .inr ⟨_, rfl, bl⟩
            | _ => exact .inr ⟨_, rfl, bl⟩
        | _ => exact .inr ⟨_, rfl, b3'⟩
      | _ => exact .inr ⟨_, rfl, b2'⟩
    · rw [if_neg c]
      exact .inr ⟨_, rfl, bl⟩
  obtain ⟨dd2, g1, g2, g3, g4, g5⟩ := shV _ H25 kindB
  walk_at "rd"
  refine w_repr g1 g2 g3 g4 g5 ?_
  have S25 := SqL.of (K := K) (x25 _ _ l24)
  walk_at "rd"
  refine w_ixL S25 a0 ?_
  walk_at "rd"
  refine w_ixL S25 a1 ?_
  walk_at "rd"
  refine w_ixL S25 a2 ?_
  walk_at "rd"
  refine ⟨d2, d3, (k23.extD x24 ne15).ext x25.r, (k23b.extD x24 ne2).ext x25.r, (k3.extD x24 ne3).ext x25.r, dp_ext x25 _ _ q1, dp_ext x25 _ _ q2, o2, o3, ?_⟩
  walk_at "rd"
  refine w_repr g1 g2 g3 g4 g5 ?_
  walk_at "rd"
  refine w_newT (by rfl) fun p26 H26 n26 x26 h26 _ => ?_
  walk_at "rd"
  refine w_newL (by rfl) fun p27 H27 n27 x27 h27 _ => ?_
  walk_at "rd"
  refine w_newL (by rfl) fun p28 H28 n28 x28 h28 _ => ?_
  walk_at "rd"
  have d27 : Die H27 d := ((d24.ext x25).ext x26).ext x27
  refine ⟨d, p28, _, rfl, rfl, d27.ext x28, SqL.of h28, d27.ne n28, by rfl, by rfl, fun v29 H29 m29 x29 d29 => ?_⟩
  have r29 := x29.r (d27.ext x28)
  obtain ⟨k29, c29⟩ : Kd H29 v29 ∧ isL v29 = false := by
    simp only [List.mem_cons, List.not_mem_nil, or_false] at m29
    rcases m29 with rfl | rfl | rfl | rfl | rfl | rfl | rfl | rfl
    all_goals first | exact ⟨trivial, by decide⟩ | exact ⟨Kd.ext r29 ⟨_, x28 _ _ (x27 _ _ h26), rfl⟩, rfl⟩ | exact ⟨Kd.ext r29 ⟨_, x28 _ _ h27, rfl⟩, rfl⟩
  walk_at "rd"
  refine ⟨k29, c29, ?_⟩
  have xl : ExtD d H10 H24 := fun a o na e => by
    have e15 : H15 a = some o := x15 _ _ na (x14 _ _ (x13 _ _ (x12 _ _ (x11 _ _ e))))
    have nal : a ≠ l := ne_of_none e15 n16
    have e19 : H19 a = some o := x19 _ _ na (x18 _ _ (x17 _ _ (x16 _ _ e15)))
    exact x24 _ _ nal (x23 _ _ na (x22 _ _ (x21 _ _ (x20 _ _ nal e19))))
  exact q H29 (xa.trans (xl.trans (x25.d.trans (x26.d.trans (x27.d.trans (x28.d.trans x29)))))) d29
def sp_law (K : PySem.W.Frag) : Sp := fun vs H Q _ => match vs with
  | [x] => ∃ (s : Addr) (ns : List Int), x = .ref s ∧ SqL K H s (ns.map V.int) ∧ ns.length ≤ 63 ∧ ∀ H', Q (.bl true) H'
  | _ => False
theorem ok_law {P : Program} {w : World} {K : PySem.W.Frag} {mg : Str → Option Value} {base : Heap} (T : Tx P K mg) (h__law_told : Has P w K mg base 5 "_law_told" ["_law_length", "_law_times", "_law_by"] (sp__law_told K)) (h_scaled : Has P w K mg base 4 "scaled" ["length", "times", "by"] (sp_scaled K)) (h__law_right : Has P w K mg base 6 "_law_right" ["_law_dice_here"] (sp__law_right K)) (h__law_dice : Has P w K mg base 1 "_law_dice" ["_law_script", "_law_spot"] (sp__law_dice K)) : Has P w K mg base 7 "law" ["_law_script"] (sp_law K) := by
  refine Has.mk (k := 6) T.d_law T.g_law sc_law (fun _ _ _ _ _ _ us hl => match us, hl with | [_], _ => rfl) (fun vs H Q E h => by rcases vs with _ | ⟨v0, _ | ⟨v1, rest1⟩⟩ <;> first | rfl | exact h.elim) (fun f cdv A outer s H vs Q E hr hgd h => have hu := hr.units; have hu66 := units66 hr; ⟨_, (pss_cons (ps_for PassesOwn.leaving rfl (pi_range1 (by rfl) T.n_range (pa_cons (pe_callB (c_max2 rfl) (by rfl) T.n_max (by decide +kernel) (pa_cons pe_int (pa_cons (pe_callB (c_min2 rfl) (by rfl) T.n_min (by decide +kernel) (pa_cons pe_int (pa_cons (pe_callB (c_len K) (by rfl) T.n_len (by decide +kernel) (pa_cons (pv 0) pa_nil)) pa_nil))) pa_nil))) pa_nil)) (pg_name (i := 1) sc_law.nd rfl (.inl rfl)) (pss_cons (ps_set (i := 2) sc_law.nd rfl (.inl rfl) (pe_callH h__law_dice (hr.mono (by decide)) hgd (takes_of rfl rfl rfl rfl) (pa_cons (pv 0) (pa_cons (pv 1) pa_nil)))) (pss_one (ps_for PassesOwn.leaving rfl (pi_range1 (by rfl) T.n_range (pa_cons pe_int pa_nil)) (pg_name (i := 3) sc_law.nd rfl (.inl rfl)) (pss_one (ps_if (pt_not (pt_val (pe_callH h__law_right (hr.mono (by decide)) hgd (takes_of rfl rfl rfl rfl) (pa_cons (pv 2) pa_nil)))) (pss_one (ps_ret pe_bl)) pss_nil)))))) (pss_cons (ps_set (i := 4) sc_law.nd rfl (.inl rfl) (pe_lst (pa_cons (pe_callH h_scaled (hr.mono (by decide)) hgd (takes_of rfl rfl rfl rfl) (pa_cons pe_int (pa_cons pe_int (pa_cons pe_int pa_nil)))) (pa_cons (pe_callH h_scaled (hr.mono (by decide)) hgd (takes_of rfl rfl rfl rfl) (pa_cons (pe_un un_neg pe_int) (pa_cons pe_int (pa_cons pe_int pa_nil)))) (pa_cons (pe_callH h_scaled (hr.mono (by decide)) hgd (takes_of rfl rfl rfl rfl) (pa_cons pe_int (pa_cons pe_int (pa_cons pe_int pa_nil)))) (pa_cons (pe_callH h_scaled (hr.mono (by decide)) hgd (takes_of rfl rfl rfl rfl) (pa_cons (pe_op o_sub (pe_op o_pow pe_int pe_int) pe_int) (pa_cons (pe_op o_pow pe_int pe_int) (pa_cons (pe_op o_pow pe_int pe_int) pa_nil)))) pa_nil)))))) (pss_one (ps_ret (pe_and (pe_cmpR (o_eq K hu) (pv 4) (pe_lst (pa_cons pe_int (pa_cons (pe_un un_neg pe_int) (pa_cons pe_int (pa_cons (pe_op o_sub (pe_op o_pow pe_int pe_int) pe_int) pa_nil))))) (nomark _)) (pe_one (pe_cmpR (o_eq K hu) (pe_callH h__law_told (hr.mono (by decide)) hgd (takes_of rfl rfl rfl rfl) (pa_cons (pe_op o_sub (pe_op o_pow pe_int pe_int) pe_int) (pa_cons pe_int (pa_cons pe_int pa_nil)))) pe_str (nomark _)))))))), ?_⟩)
  rcases vs with _ | ⟨v0, _ | ⟨v1, rest1⟩⟩ <;> try exact h.elim
  rw [show L2.start ["_law_script", "_law_spot", "_law_dice_here", "_law_turn", "_law_told_here"] [v0] = [some v0, none, none, none, none] from rfl]
  try dsimp only [cx_K]
  obtain ⟨s, ns, rfl, hs, hn, q⟩ := h
  walk_at "rd"
  refine w_len_L hs ?_
  walk_at "rd"
  have hm : ∀ m : Int, (if (if m < 4 then m else 4) > 1 then (if m < 4 then m else 4) else 1) ≤ 4 := fun m => by split <;> split <;> omega
  have hm2 : ∀ m : Int, 1 ≤ (if (if m < 4 then m else 4) > 1 then (if m < 4 then m else 4) else 1) := fun m => by split <;> omega
  have hmA := hm ((ns.map V.int).length : Int)
  have hmB := hm2 ((ns.map V.int).length : Int)
  refine w_rng1v (by omega) (by omega) ?_
  refine w_forRng (fun i σ H => ∃ v1 v2 v3, σ = [some (.ref s), v1, v2, v3, none] ∧ SqL K H s (ns.map V.int)) ⟨_, _, _, rfl, hs⟩ ?_ ?_
  · rintro i σ H hi ⟨v1, v2, v3, rfl, hs⟩
    walk_at "rd"
    refine ⟨s, ns, i, rfl, rfl, hs, fun d H1 nd x1 d1 => ?_⟩
    walk_at "rd"
    refine w_rng1v (by decide) (by decide) ?_
    refine w_forRng (fun j σ H' => ∃ v3, σ = [some (.ref s), some (.int i), some (.ref d), v3, none] ∧ Die H' d ∧ ExtD d H1 H') ⟨_, rfl, d1, ExtD.refl⟩ ?_ ?_
    · rintro j σ H' hj ⟨v3, rfl, d2, x2⟩
      walk_at "rd"
      refine ⟨d, rfl, d2, fun H3 x3 d3 => ?_⟩
      walk_at "rd"
      exact ⟨_, rfl, d3, x2.trans x3⟩
    · rintro σ H' ⟨v3, rfl, d2, x2⟩
      exact ⟨_, _, _, rfl, sqL_fresh hs nd x1 x2⟩
  · rintro σ H ⟨v1, v2, v3, rfl, hs⟩
    have sc : ∀ (x y z : V) (r : Int) (Hx : Hp) (C : VK) (Ex : XK), Kd Hx x → Kd Hx y → Kd Hx z → scR x y z = .ok r → C (.int r) Hx → sp_scaled K [x, y, z] Hx C Ex := by
      intro x y z r Hx C Ex kx ky kz e hc
      refine ⟨kx, ky, kz, ?_⟩
      rw [e]
      exact hc
    walk_at "rd"
    refine sc _ _ _ 4 _ _ _ trivial trivial trivial (by decide +kernel) ?_
    walk_at "rd"
    refine sc _ _ _ (-4) _ _ _ trivial trivial trivial (by decide +kernel) ?_
    walk_at "rd"
    refine sc _ _ _ 7 _ _ _ trivial trivial trivial (by decide +kernel) ?_
    walk_at "rd"
    refine sc _ _ _ 1073741823 _ _ _ trivial trivial trivial (by decide +kernel) ?_
    walk_at "rd"
    refine w_newL (by rfl) fun p1 H1 n1 x1 h1 _ => ?_
    walk_at "rd"
    refine w_newL (by rfl) fun p2 H2 n2 x2 h2 _ => ?_
    walk_at "rd"
    refine w_eq_d (.lst (SqL.of (x2 _ _ h1)) (.cons (.int _) (.cons (.int _) (.cons (.int _) (.cons (.int _) .nil))))) (.lst (SqL.of h2) (.cons (.int _) (.cons (.int _) (.cons (.int _) (.cons (.int _) .nil))))) (by decide +kernel) (by decide +kernel) ?_
    walk_at "rd"
    refine ⟨.int 2, .int 1, trivial, trivial, trivial, .int 2, .int 1, okD_int (by decide), okD_int (by decide), fun H3 x3 => ?_⟩
    have e : dueV (.int (2 ^ Int.toNat 30 - 1)) (.int 2) (.int 1) = .str lenS := by decide +kernel
    rw [e]
    walk_at "rd"
    exact q _
theorem all_law {P : Program} {w : World} {K : PySem.W.Frag} {mg : Str → Option Value} {base : Heap} (T : Tx P K mg) : Has P w K mg base 7 "law" ["_law_script"] (sp_law K) := by
  have h_is_whole := ok_is_whole (P := P) (w := w) (base := base) T
  have h_is_length := ok_is_length (P := P) (w := w) (base := base) T h_is_whole
  have h_rounded := ok_rounded (P := P) (w := w) (base := base) T
  have h_require_length := ok_require_length (P := P) (w := w) (base := base) T h_is_length
  have h_text_of_length := ok_text_of_length (P := P) (w := w) (base := base) T h_require_length
  have h_scaled := ok_scaled (P := P) (w := w) (base := base) T h_is_length h_rounded h_is_whole h_require_length
  have h__law_dice := ok__law_dice (P := P) (w := w) (base := base) T
  have h__law_roll := ok__law_roll (P := P) (w := w) (base := base) T
  have h__law_pick := ok__law_pick (P := P) (w := w) (base := base) T h__law_roll
  have h__law_nearest := ok__law_nearest (P := P) (w := w) (base := base) T
  have h__law_drawn_length := ok__law_drawn_length (P := P) (w := w) (base := base) T h__law_roll
  have h__law_told := ok__law_told (P := P) (w := w) (base := base) T h_scaled
  have h__law_due := ok__law_due (P := P) (w := w) (base := base) T h__law_nearest
  have h__law_is_refused := ok__law_is_refused (P := P) (w := w) (base := base) T h_text_of_length
  have h__law_right := ok__law_right (P := P) (w := w) (base := base) T h__law_is_refused h__law_pick h__law_told h__law_due h__law_roll h__law_drawn_length
  have h_law := ok_law (P := P) (w := w) (base := base) T h__law_told h_scaled h__law_right h__law_dice
  exact h_law
theorem law_asks {K : PySem.W.Frag} (H : Hp) (a : Addr) (ns : List Int) (hl : ns.length ≤ 63) (hS : SqL K H a (ns.map V.int)) : sp_law K [.ref a] H (fun v _ => v = .bl true) fun _ _ _ => False :=
  ⟨a, ns, rfl, hS, hl, fun _ => rfl⟩
end K02
open PySem PySem.W PySem.Calls PyProof.Rows
set_option maxRecDepth 100000 in
set_option maxHeartbeats 0 in
theorem PySem.Challenge.cw_pagewright_k02_scaled_lengths_and_errors_holds : PySem.Challenge.rw_pagewright_k02_scaled_lengths_and_errors.Holds := by
  w_on; o_law
  refine HandSHeadRun.head_any (r := OpenLaw.row PySem.Challenge.rw_pagewright_k02_scaled_lengths_and_errors) (q := view (OpenLaw.row PySem.Challenge.rw_pagewright_k02_scaled_lengths_and_errors).prog [26]) (H := K02.hk) (ob := K02.ob) (M := 4000) (loose := K02.loose) (d := HandSHeadRun.topDef (OpenLaw.row PySem.Challenge.rw_pagewright_k02_scaled_lengths_and_errors).prog 26) (kwd := []) K02.ob_eq
    (by kernel_rfl) (fun s => by kernel_rfl) K02.run (by kernel_rfl) (by kernel_rfl) (by kernel_rfl) (by rfl) (by first | assumption | decide +kernel) (by decide +kernel) ⟨rfl, rfl, rfl, rfl, rfl, by decide +kernel⟩ ?hw ?hc
  case hw => w_witness2
  case hc =>
    refine Pw.walk_ofG (l := PySem.Challenge.rw_pagewright_k02_scaled_lengths_and_errors) (n := 63) (k := 7) (x := "_law_script") rfl (by decide) (by kernel_rfl) ⟨rfl, by decide, by decide⟩ ?F
    intro w mg fa h Y G hmg0
    obtain ⟨K, KX, c⟩ := Y
    have hmg : mg ("law" : PySem.Str) = some (.ref fa) := by
      have e : (HandSHeadRun.topDef (OpenLaw.row PySem.Challenge.rw_pagewright_k02_scaled_lengths_and_errors).prog 26).name = ("law" : PySem.Str) := by kernel_rfl
      rw [← e]
      exact hmg0
    have T := K02.tx_of KX G c
    have gg := T.g_law
    have e := hmg.symm.trans gg
    cases e
    refine ⟨K, K02.sp_law K, KX, fun H a ns hl _ hS => K02.law_asks H a ns hl hS, fun base _ _ => ?_⟩
    obtain ⟨fd, F, bb, _⟩ := K02.all_law (P := PySem.Challenge.rw_pagewright_k02_scaled_lengths_and_errors.prog) (w := w) (base := base) T
    exact ⟨fd, F, bb⟩
