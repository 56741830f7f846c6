import PyProof.Rows.All
import Wide.All
import OpenK.AllK
import Wide.FinOn
import KE.KStateDown
import Lean
import HandS.ForMost
import HandS.ForExc
import HandS.TryMany
import HandS.ExcField
import HandS.ExcSuper
import HandS.Flow
import HandS.Wide
import HandS.IsInst
import HandS.FStr
import HandS.RaiseMore
import HandS.Defaults
import HandS.Deep
import HandS.StrMore
import HandS.Head0
import HandS.Head1
import HandS.Head2
import HandS.HeadEnd
import HandS.HeadHook1
import HandS.HeadHook2
import HandS.HeadHook3
import HandS.HeadHook4
import KE.KExcSuper
import HandS.HeadWalk
import PyProof.ExcBaseAll.IndexError
import PyProof.ExcBaseAll.OverflowError
import HandS.TupAny
import HandS.TupMul
import PyProof.StrOps2
import HandS.Style
import HandS.Walk
import HandS.Rev
import HandS.Codes
import HandS.Text
import KE.IntTextText
import PySem.Challenge.RW_pagewright_k00_lengths_of_texts
set_option Elab.async false
set_option linter.all false
set_option maxRecDepth 100000
set_option maxHeartbeats 4000000
/-! ## Part A: promises of defs that are only called where no repr is under way -/
namespace Pw
open PySem PySem.Spec PyProof.Rows L2

/-- the promise of a def, for callers that stand in no repr -/
structure FnG (P : Program) (w : World) (K : PySem.W.Frag) (mg : Str → Option Value) (base : Heap) (k : Nat) (f : Addr) (fd : FuncData) (ps : List Str) (sp : Sp) : Prop where
  len : ∀ vs H Q E, sp vs H Q E → vs.length = ps.length
  run : ∀ (A : Around) (outer : List Env) (s : Shared) (H : Hp) (args : Args) (us : List Value) (vs : List V) (Q : VK) (E : XK), Room k A → A.guards = some [] →
    Env0 P w K mg base A outer s H → BindsTo s fd args (ps.zip us) → Vals vs us → sp vs H Q E → codeAny (model P w) A (.call (.ref f) args) (CR (L2.CX P w) outer P w H s Q E) s

theorem FnG.of {P : Program} {w : World} {K : PySem.W.Frag} {mg : Str → Option Value} {base : Heap} {k : Nat} {f : Addr} {fd : FuncData} {ps : List Str} {sp : Sp} (F : FnOk P w K mg base (L2.CX P w) k f fd ps sp) : FnG P w K mg base k f fd ps sp :=
  ⟨F.len, fun A outer s H args us vs Q E hr _ => F.run A outer s H args us vs Q E hr⟩

theorem guards_deeper (A : Around) (env : Env) : (A.deeper env).guards = A.guards := by
  first | rfl | (cases A; simp [Around.deeper])

theorem fnG_of {P : Program} {w : World} {K : PySem.W.Frag} {mg : Str → Option Value} {base : Heap} {k : Nat} {f : Addr} {fd : FuncData} {x qual : Str} {params : Arguments} {body : List Stmt} {scope : Scope} {dvs : List V} {kws : List (Str × V)}
    {N ps : List Str} {sp : Sp} (F : FunD K x qual params body scope dvs kws f fd) (S : FnScope N ps scope) (len : ∀ vs H Q E, sp vs H Q E → vs.length = ps.length)
    (hbody : ∀ (cdv : Value) (A : Around) (outer : List Env) (s : Shared) (H : Hp) (vs : List V) (Q : VK) (E : XK), Room k (A.deeper (envOfC qual scope s.heap.objs.size f cdv)) → (A.deeper (envOfC qual scope s.heap.objs.size f cdv)).guards = some [] → sp vs H Q E →
      ∃ t, PSs (cxOf (L2.CX P w) P w K mg base N qual scope f cdv A outer s H E) body t ∧ t { nx := fun _ H' => Q .non H', rt := Q } (start N vs) H) :
    FnG P w K mg base (k + 1) f fd ps sp := by
  obtain ⟨oc, od, dV, kV, doc, pm, an, cdv, ct, osl, rfl, lk, hcd, _, _⟩ := F.ex
  refine ⟨len, fun A outer s H args us vs Q E room hgd env0 bnd rel want => ?_⟩
  have lenV := len _ _ _ _ want
  have KX : K.In s.heap := env0.mod.kin.keeps fun b o e => (env0.bs b o e).1
  have lim : s.heap.NoLimit := env0.mod.nolimit.keeps fun b o e => (env0.bs b o e).1
  have kinds : ∀ y ∈ ps.zip us, scope.names.lookup y.1 = some .local ∨ (scope.names.lookup y.1 = some .cell ∧ ((cellsFrom (s.heap.objs.size + 1) scope.names []).lookup y.1).isSome = true) := by
    rintro ⟨n, v⟩ hy
    cases S.par n (List.of_mem_zip hy).1 with
    | inl q => exact Or.inl q
    | inr q => exact Or.inr ⟨q, PySem.W.cellsFrom_some _ _ _ (Or.inl q)⟩
  refine codeAny_call_function room.depth (KX _ _ lk) rfl S.co S.gen rfl (PySem.W.codeRec_of KX hcd) (bnd _ _ _ _ (wpAny_newFunctionEnv_cells S.kind kinds fun env he s1 inC => ?_))
  subst he
  obtain ⟨t, der, rd⟩ := hbody cdv A outer s H vs Q E (room.deeper _) (by rw [guards_deeper]; exact hgd) want
  have I : Inv (cxOf (L2.CX P w) P w K mg base N qual scope f cdv A outer s H E) [] (start N vs) H s1 := inv_start S room.hd env0 lenV rel inC
  refine ⟨lim.keeps inC.toInCall.keep, codeAny_func (wpAny_mono (der.run [] s1 (start N vs) H _ I rd) (fun fl s' done => ?_) fun e s' z => z)⟩
  have close : ∀ {σ' : L2.St} {H' : Hp} {v : V} {u : Value}, Inv (cxOf (L2.CX P w) P w K mg base N qual scope f cdv A outer s H E) [] σ' H' s' → RelV v u → Q v H' → CE outer P w H s Q u s' :=
    fun J rv q => ⟨_, _, J.os, J.bare, J.base, J.hok, rv, q⟩
  match fl, done with
  | .ret u, ⟨v, σ', H', J, rv, q⟩ => exact close J rv q
  | .next, ⟨σ', H', J, q⟩ => exact close (v := V.non) (u := Value.none) J rfl q
  | .brk, ⟨_, _, _, q⟩ => exact q.elim
  | .cont, ⟨_, _, _, q⟩ => exact q.elim

section
variable {X : Cx} {k : Nat} {f : Addr} {fd : FuncData} {ps : List Str} {sp : Sp} {E : L2.St → XK} {x : Str} {p pos : Pos} {e : Expr} {es : List Expr} {t : TA}
theorem run_fnG {pins : List (Addr × Obj)} {σ : L2.St} {H : Hp} {s : Shared} {Q : VK} {us : List Value} {vs : List V} (F : FnG X.prog X.w X.K X.mg X.base k f fd ps sp) (hr : Room k X.A) (hg : X.A.guards = some []) (hb : Binds X.K fd ps [])
    (hx : PassesAt (L2.CX X.prog X.w) X σ (E σ)) (I : Inv X pins σ H s) (r : Vals vs us) (h : sp vs H Q (E σ)) : wpAny (model X.prog X.w) X.A (call (.ref f) us) (EP X pins σ Q) X.xe s := by
  have b := hb s us I.kIn (by rw [List.append_nil, ← r.length]; exact F.len _ _ _ _ h)
  rw [List.append_nil] at b
  refine wpAny_call (codeAny_mono (F.run X.A X.stack s H ⟨us, []⟩ us vs Q (E σ) hr hg I.env0 b r h) fun res s' hq => ?_)
  match res, hq with
  | .error ex, hq => exact hx pins H s ex s' I hq
  | .ok (.ret u), hq => exact I.after hq
  | .ok .next, hq => exact hq.elim
  | .ok .brk, hq => exact hq.elim
  | .ok .cont, hq => exact hq.elim
/-- f(e, ..) -/
theorem pe_callG (F : FnG X.prog X.w X.K X.mg X.base k f fd ps sp) (hr : Room k X.A) (hgd : X.A.guards = some []) (hg : Gl X x) (hm : X.mg x = some (.ref f)) (hk : PySem.W.keepIn X.K (.ref f) = true) (hb : Binds X.K fd ps [])
    (hx : ∀ σ, PassesAt (L2.CX X.prog X.w) X σ (E σ)) (ha : PA X (e :: es) t) (hdb : (x == ("__debug__" : Str)) = false := by decide)
    (he : starEach (e :: es) X.env = (false, eval e X.env) :: starEach es X.env := by rfl) (hpl : (backTo pos (starEach es X.env)).any (·.1) = false := by rfl) :
    PE X (.Call (.Name x p) (e :: es) [] pos) (tCallS sp E t) := by
  refine ⟨fun pins s σ H Q I h => wpAny_Call_Name_kw (ld_glob I hg hm (PySem.W.callWith_K (h₀ := X.base) I.ok.mod.kin hk (thn (ha.run pos pins s σ H _ I h) ?_) he hpl) hdb)⟩
  rintro us s1 ⟨vs, H1, I1, r, q⟩
  exact ⟨I1.kIn, run_fnG F hr hgd hb (hx σ) I1 r q⟩
end

/-- the law's call, by its promise FnG -/
theorem law_callG {P : Program} {w : World} {K : PySem.W.Frag} {mg mb : Str → Option Value} {k : Nat} {fa a : Addr} {x : Str} {sp : Sp} {s1 : Shared} {vs : List Value} {ns : List Int}
    (KX : K.In s1.heap) (hns : s1.heap.Ns mainGlobals mg) (hb : s1.heap.Ns builtinsNs mb) (hbb : ∀ x : Str, x ≠ "__name__" → mb x = bootBuiltins x) (hlim : s1.heap.NoLimit) (hg : s1.gens = #[])
    (ha : s1.heap.get? a = some { cls := .type "list", data := .seq vs.toArray }) (hi : IntsAre vs ns) (hl : ns.length ≤ sizeLine) (hr : Room k callerA)
    (F : ∀ base : Heap, K.In base → base.Ns mainGlobals mg → ∃ fd, FnG P w K mg base k fa fd [x] sp ∧ Binds K fd [x] [])
    (hsp : ∀ H : Hp, Only H → SqL K H a (ns.map V.int) → sp [.ref a] H (fun v _ => v = .bl true) fun _ _ _ => False) :
    codeAny (model P w) callerA (.call (.ref fa) ⟨[.ref a], []⟩) (fun r s' => r = .ok (.ret (.bool true)) ∧ OldK s1.heap s'.heap ∧ s'.os = s1.os ∧ AllBare s'.gens) s1 := by
  -- what is tracked: the script alone, locked, or nothing
  suffices core : ∀ H : Hp, Only H → SqL K H a (ns.map V.int) → HOk P w H s1.heap → (∀ b, H b ≠ none → b = a ∧ K.lookup b = none) →
      codeAny (model P w) callerA (.call (.ref fa) ⟨[.ref a], []⟩) (fun r s' => r = .ok (.ret (.bool true)) ∧ OldK s1.heap s'.heap ∧ s'.os = s1.os ∧ AllBare s'.gens) s1 by
    have rv := vals_ints hi
    cases hk : K.lookup a with
    | some o =>
      have e := KX a o hk
      rw [ha] at e
      cases e
      refine core (fun _ => none) (fun _ => Or.inl rfl) (Or.inr ⟨_, vs.toArray, _, hk, rfl, rfl, rfl, ?_, ?_⟩) (fun b u z => ?_) (fun b z => absurd rfl z)
      · rw [List.size_toArray, hi.length]
        exact hl
      · simpa using rv
      · cases (show (none : Option HO) = some u from z)
    | none =>
      obtain ⟨H, hH⟩ : ∃ H : Hp, H = fun b => if b = a then some (HO.frz { cls := .type "list", data := .seq vs.toArray } (.lst (ns.map V.int))) else none := ⟨_, rfl⟩
      have at_a : H a = some (.frz { cls := .type "list", data := .seq vs.toArray } (.lst (ns.map V.int))) := by rw [hH]; exact if_pos rfl
      have off : ∀ b, b ≠ a → H b = none := fun b hne => by rw [hH]; exact if_neg hne
      refine core H (fun b => ?_) (Or.inl (Or.inr ⟨_, at_a⟩)) (fun b u z => ?_) (fun b z => ?_)
      · by_cases q : b = a
        · exact Or.inr ⟨_, _, by rw [q]; exact at_a⟩
        · exact Or.inl (off b q)
      · by_cases q : b = a
        · subst q
          rw [at_a] at z
          cases z
          exact ⟨ha, by rw [List.length_map]; exact hl, vs, _, rv, ha⟩
        · rw [off b q] at z
          cases z
      · by_cases q : b = a
        · exact ⟨q, by rw [q]; exact hk⟩
        · exact absurd (off b q) z
  intro H hO hS hok hA
  have stays : ∀ {b : Addr} {o : Obj}, s1.heap.get? b = some o → H b = none → (hidT s1.heap H).get? b = some o := fun e n => hidT_get e n
  have nsK : ∀ {b : Addr} {m : Str → Option Value}, s1.heap.Ns b m → (hidT s1.heap H).Ns b m := by
    rintro b m ⟨o, es, ep, e, d, r⟩
    refine ⟨o, es, ep, stays e ?_, d, r⟩
    cases q : H b with
    | none => rfl
    | some u =>
      have eb := (hA b (by rw [q]; simp)).1
      rw [eb, ha] at e
      cases e
      cases (show Data.seq vs.toArray _ = Data.dict es ep from d)
  have hKb : K.In (hidT s1.heap H) := fun b o e => stays (KX b o e) (by
    cases q : H b with
    | none => rfl
    | some u =>
      rw [(hA b (by rw [q]; simp)).2] at e
      cases e)
  have hM : Mod K mg (hidT s1.heap H) := ⟨hKb, nsK hns, ⟨mb, nsK hb, hbb⟩, by
    obtain ⟨mc, h1, h2⟩ := hlim
    exact ⟨mc, nsK h1, h2⟩⟩
  have env0 : Env0 P w K mg (hidT s1.heap H) callerA [] s1 H := ⟨rfl, hM, fun b o e => of_hidT e, Nat.le_of_eq (hidT_size _ _), trivial, fun b hb => absurd (show b ∈ ([] : List Addr) from hb) (by simp), hok, .of_eq hg⟩
  obtain ⟨fd, FG, hbind⟩ := F _ hKb (nsK hns)
  refine codeAny_mono (FG.run callerA [] s1 H ⟨[.ref a], []⟩ [.ref a] [.ref a] _ _ hr rfl env0 (hbind s1 [.ref a] KX rfl) (.cons rfl .nil) (hsp H hO hS)) fun r s' h => ?_
  match r, h with
  | .error e, ⟨_, _, _, _, _, _, _, _, _, _, _, _, z⟩ => exact z.elim
  | .ok .next, h => exact h.elim
  | .ok .brk, h => exact h.elim
  | .ok .cont, h => exact h.elim
  | .ok (.ret u), ⟨v, H', os, bare, un, hok', rv, q⟩ =>
    obtain rfl : v = .bl true := q
    obtain rfl : u = Value.bool true := rv
    refine ⟨rfl, OldK.of_keep fun b o e => ?_, os, bare⟩
    cases hO b with
    | inl z => exact un.keep b o e z (fun m => absurd (show b ∈ ([] : List Addr) from m) (by simp)) (by simp)
    | inr z =>
      obtain ⟨ob, xs, z⟩ := z
      have e1 := (hok b _ z).1
      have e2 := (hok' b _ (un.frzs b ob _ z)).1
      rw [e] at e1
      cases e1
      exact e2

theorem walk_ofG {l : PySem.W.OpenLaw} {n k : Nat} {q : Program} {loose : List Str} {XP : (Str → Option Value) → Heap → Prop} {YP : World → Heap → Prop} {d : DefRec} {x : Str}
    (hn : l.most = some n) (hn2 : n ≤ sizeLine) (hdf : d.params.defaults = []) (hr : Room k callerA)
    (F : ∀ (w : World) (mg : Str → Option Value) (fa : Addr) (h : Heap), YP w h → h.Ns mainGlobals mg → mg d.name = some (.ref fa) →
      ∃ (K : PySem.W.Frag) (sp : Sp), K.In h ∧
        (∀ (H : Hp) (a : Addr) (ns : List Int), ns.length ≤ n → Only H → SqL K H a (ns.map V.int) → sp [.ref a] H (fun v _ => v = .bl true) fun _ _ _ => False) ∧
        ∀ base : Heap, K.In base → base.Ns mainGlobals mg → ∃ fd, FnG l.prog w K mg base k fa fd [x] sp ∧ Binds K fd [x] []) :
    PySem.W.WalkO q loose XP YP l.row.toRowW d [] (fun f vs => PySem.call f vs) := by
  refine Att.attach_call hn hdf ?_
  intro w s0 s1 mg mb fa o pm cd doc a vs ns G Y ho hd hcd hmg hobj hints hlen hg
  obtain ⟨K, sp, KX, hsp, hF⟩ := F w mg fa _ Y G.T.g hmg
  exact law_callG KX G.T.g G.T.b G.T.builtins G.T.nolimit hg hobj hints (Nat.le_trans hlen hn2) hr hF fun H hO hS => hsp H a ns hlen hO hS
end Pw

/-! ## Part B: try with several clauses, some of which name the exception -/
namespace Pw
open PySem PySem.Spec PyProof.Rows L2

abbrev Suite := Addr → Value → Option Addr → TS
/-- a clause: the class it names, the slot of its name, its suite -/
abbrev Clause := Value × Option Nat × Suite
def endsOf (D : Ends) : Option Nat → Ends
  | none => D
  | some i => { nx := fun σ H => D.nx (σ.set i none) H, rt := D.rt, bk := fun σ H => D.bk (σ.set i none) H, ct := fun σ H => D.ct (σ.set i none) H }
def slotOf (σ : L2.St) (a : Addr) : Option Nat → L2.St
  | none => σ
  | some i => σ.set i (some (.ref a))
def wMix (K : PySem.W.Frag) (Wout : WX) (D : Ends) : List Clause → WX
  | [] => Wout
  | (c, oi, ts) :: r => fun cls d σ H => ∃ b, PySem.W.exmOne K cls c = some b ∧ (b = true → ∀ a, H a = none → ts a cls d (endsOf D oi) (slotOf σ a oi) H) ∧ (b = false → wMix K Wout D r cls d σ H)

inductive HdMix (X : Cx) : List ExceptHandler → List Clause → Prop
  | nil : HdMix X [] []
  | plain {x : Str} {c : Value} {ts : Suite} {b0 : Stmt} {suite : List Stmt} {np pos' : Pos} {hds : List ExceptHandler} {l : List Clause} (hc : Names X x c)
      (hsu : ∀ (a : Addr) (oe : Obj) (cls : Value) (d : Option Addr) (pn : List (Addr × Obj)), Zc cls d oe → (∃ vs, oe.data = .fields vs) → PSs (X.suite a ((a, oe) :: pn)) (b0 :: suite) (ts a cls d)) (r : HdMix X hds l) :
      HdMix X (.ExceptHandler (some (.Name x np)) none (b0 :: suite) pos' :: hds) ((c, none, ts) :: l)
  | named {x n : Str} {c : Value} {i : Nat} {ts : Suite} {b0 : Stmt} {suite : List Stmt} {np pos' : Pos} {hds : List ExceptHandler} {l : List Clause} (hN : X.N.Nodup) (hi : X.N[i]? = some n) (hln : X.env.kindOf n = some .local) (hc : Names X x c)
      (hsu : ∀ (a : Addr) (oe : Obj) (cls : Value) (d : Option Addr) (pn : List (Addr × Obj)), Zc cls d oe → (∃ vs, oe.data = .fields vs) → PSs (X.suite a ((a, oe) :: pn)) (b0 :: suite) (ts a cls d)) (r : HdMix X hds l) :
      HdMix X (.ExceptHandler (some (.Name x np)) (some n) (b0 :: suite) pos' :: hds) ((c, some i, ts) :: l)

section
variable {X : Cx} {body : List Stmt} {hd0 : ExceptHandler} {hds : List ExceptHandler} {l : List Clause} {pos : Pos} {tb : WX → TS} {Wout : WX}
theorem ps_try_mix (hs : X.stack = X.env :: X.outer) (hf : X.env.frame = some X.env.locals) (tk : Takes X Wout)
    (hb : ∀ (W : WX) (pn : List (Addr × Obj)) (xe : Value → Shared → Prop), Takes (X.tr pn xe) W → PassesOwn (model X.prog X.w) X.A X.env xe → PSs (X.tr pn xe) body (tb W))
    (hh : HdMix X (hd0 :: hds) l) : PS X (.Try body (hd0 :: hds) [] [] pos) (fun D σ H => tb (wMix X.K Wout D l) D σ H) := by
  refine ⟨fun pins s σ H D I h => wpAny_Try_except ?_⟩
  have ok := I.ok
  have hfr : X.A.frames = some (X.env :: X.outer) := by rw [ok.frames, hs]
  -- what the handlers make of an exception of the body
  obtain ⟨xe, hxe⟩ : ∃ xe : Value → Shared → Prop, xe = fun e s1 => wpAny (model X.prog X.w) X.A (noteFrame e X.env) (fun _ s2 => wpAny (model X.prog X.w) X.A (setFlight e none) (fun _ s3 =>
    wpAny (model X.prog X.w) X.A (handleBy e X.env (hd0 :: hds)) (SP X pins D) X.xe s3) X.xe s2) X.xe s1 := ⟨_, rfl⟩
  have tkb : Takes (X.tr (X.pn ++ pins) xe) (wMix X.K Wout D l) := by
    rintro u s' ⟨a, B, sI, pins', σ', H', cls, d, rfl, J', nb, up, sky, na, os, ag, w⟩
    have J : Inv X pins σ' H' sI := J'.ofTry ok
    show xe (.ref a) s'
    rw [hxe]
    show wpAny (model X.prog X.w) X.A (noteFrame (.ref a) X.env) _ _ _
    refine Sky.land Zc.steady hfr hf (by rw [← hs]; exact sky) fun h3 fl3 up3 => ?_
    have J3 : Inv X pins σ' H' { s' with heap := h3 } := J.landed nb fl3.1 (up.trans up3) os ag
    obtain ⟨oe3, vs3, he3, hz3, hd3⟩ := fl3.there
    have nfr : a ∉ frs (X.env :: X.outer) := fun hm => by
      obtain ⟨_, o', e', hnf⟩ := fl3.2.2.1.mem hm
      rw [he3] at e'
      cases e'
      exact hnf _ hd3
    have nL : a ≠ X.env.locals := fun z => nfr (List.mem_filterMap.mpr ⟨X.env, List.mem_cons_self, by rw [hf, z]⟩)
    have nF : a ∉ X.fs := fun hm => by
      obtain ⟨e, he, q⟩ := List.mem_filterMap.mp hm
      exact nfr (List.mem_filterMap.mpr ⟨e, List.mem_cons_of_mem _ he, q⟩)
    have S3 := J3.suite he3 hd3 na nL nF
    have test : ∀ {x : Str} {c : Value} {np : Pos}, Names X x c → ∀ {Q : Value → Shared → Prop} {E : Value → Shared → Prop}, Q c { s' with heap := h3 } →
        wpAny (model X.prog X.w) (X.A.mark (some (.ref a))) (eval (.Name x np) X.env) Q E { s' with heap := h3 } := by
      rintro x c np ⟨hg, hdbg, hm⟩ Q E q
      cases hm with
      | inl hm => exact ld_glob (X := X.suite a ((a, oe3) :: (X.pn ++ pins))) S3 hg hm q hdbg
      | inr hm => exact ld_blt (X := X.suite a ((a, oe3) :: (X.pn ++ pins))) S3 hg hm.1 hm.2.1 q hm.2.2 hdbg
    have LT : PySem.W.Looks (model X.prog X.w) h3 (typeOf (.ref a)) cls := fun A Q E s k q => wpAny_typeOf_ref (k _ _ he3) (by rw [hz3.1]; exact q)
    suffices go : ∀ {hds' : List ExceptHandler} {l' : List Clause}, HdMix X hds' l' → wMix X.K Wout D l' cls d σ' H' →
        wpAny (model X.prog X.w) X.A (handleBy (.ref a) X.env hds') (SP X pins D) X.xe { s' with heap := h3 } from go hh w
    intro hds' l' hk
    induction hk with
    | nil =>
      intro w
      refine wpAny_handleBy_nil ?_
      obtain ⟨k1, k2, k3, oe, vs, T, oT, ts', he, hz, hd, h1, hr⟩ := id fl3
      unfold PySem.passOn
      refine wpAny_bind (wpAny_field he hd h1 ?_)
      rw [if_neg (show ¬ ((Value.ref T == Value.none) = true) from by simp)]
      have fin : wpAny (model X.prog X.w) X.A (setFlight (.ref a) X.env.frame) (fun _ s4 => wpAny (model X.prog X.w) X.A (throw (.ref a) : Sem Flow) (SP X pins D) X.xe s4) X.xe { s' with heap := h3 } := by
        rw [hf]
        exact HandSPX.setFlight_upZ fl3 fun h4 hh4 up4 => wpAny_throw (tk _ _ ⟨a, B, sI, pins, σ', H', cls, d, rfl, J, nb, (up.trans up3).trans up4, Or.inr (Or.inr (by rw [hs]; exact hh4)), na, os, ag, w⟩)
      first
        | exact wpAny_bind fin
        | exact wpAny_bind (wpAny_pure (wpAny_bind fin))
    | @plain x c ts b0 suite np pos' hds2 l2 hc hsu r ih =>
      rintro ⟨b, hb1, hyes, hno⟩
      refine wpAny_handleBy_cons (codeAny_handlers_test (test hc ((PySem.W.exm_one (M := model X.prog X.w) J3.kIn LT hb1).here ?_))) (by intro q; cases q)
      cases b with
      | false => exact ih (hno rfl)
      | true =>
        refine codeAny_handlers_suite (HandSPX.lands_againZ fl3 fun h4 fl4 up4 => ?_)
        have J4 : Inv X pins σ' H' { s' with heap := h4 } := J.landed nb fl4.1 ((up.trans up3).trans up4) os ag
        obtain ⟨oe4, vs4, he4, hz4, hd4⟩ := fl4.there
        refine wpAny_mono ((hsu a oe4 cls d (X.pn ++ pins) hz4 ⟨_, hd4⟩).run [] _ _ H' _ (J4.suite he4 hd4 na nL nF) (hyes rfl a na)) (fun f s6 hsp => ?_) (fun _ _ z => z.elim)
        match f, hsp with
        | .next, ⟨_, _, S6, q6⟩ => exact ⟨_, _, S6.unsuite ok, q6⟩
        | .brk, ⟨_, _, S6, q6⟩ => exact ⟨_, _, S6.unsuite ok, q6⟩
        | .cont, ⟨_, _, S6, q6⟩ => exact ⟨_, _, S6.unsuite ok, q6⟩
        | .ret u, ⟨_, _, _, S6, r6, q6⟩ => exact ⟨_, _, _, S6.unsuite ok, r6, q6⟩
    | @named x n c i ts b0 suite np pos' hds2 l2 hN hi hln hc hsu r ih =>
      rintro ⟨b, hb1, hyes, hno⟩
      refine wpAny_handleBy_cons (codeAny_handlers_test (test hc ((PySem.W.exm_one (M := model X.prog X.w) J3.kIn LT hb1).here ?_))) (by intro q; cases q)
      cases b with
      | false => exact ih (hno rfl)
      | true =>
        refine codeAny_handlers_suite_as (HandSPX.lands_againZ fl3 fun h4 fl4 up4 => ?_)
        have J4 : Inv X pins σ' H' { s' with heap := h4 } := J.landed nb fl4.1 ((up.trans up3).trans up4) os ag
        obtain ⟨oe4, vs4, he4, hz4, hd4⟩ := fl4.there
        refine store_ok (X := X.suite a ((a, oe4) :: (X.pn ++ pins))) (v := .ref a) (J4.suite he4 hd4 na nL nF) hN hi (show Loc X.env.scope n from Or.inl hln) rfl (fun s5 S5 => ?_) (Or.inr hln)
        refine wpAny_mono ((hsu a oe4 cls d (X.pn ++ pins) hz4 ⟨_, hd4⟩).run [] s5 _ H' _ S5 (hyes rfl a na)) (fun f s6 hsp => ?_) (fun _ _ z => z.elim)
        have ended : ∀ {σ6 : L2.St} {H6 : Hp} {Q : Shared → Prop}, Inv (X.suite a ((a, oe4) :: (X.pn ++ pins))) [] σ6 H6 s6 → (∀ s7, Inv X pins (σ6.set i none) H6 s7 → Q s7) →
            wpAny (model X.prog X.w) X.A (do bindName X.env n .none; unbindBehindTheSuite X.env n pos') (fun _ s7 => Q s7) X.xe s6 := fun S6 hq => gone_ok (S6.unsuite ok) hN hi hln hq
        match f, hsp with
        | .next, ⟨_, _, S6, q6⟩ => exact ended S6 fun s7 J7 => ⟨_, _, J7, q6⟩
        | .brk, ⟨_, _, S6, q6⟩ => exact ended S6 fun s7 J7 => ⟨_, _, J7, q6⟩
        | .cont, ⟨_, _, S6, q6⟩ => exact ended S6 fun s7 J7 => ⟨_, _, J7, q6⟩
        | .ret u, ⟨_, _, _, S6, r6, q6⟩ => exact ended S6 fun s7 J7 => ⟨_, _, _, J7, r6, q6⟩
  refine wpAny_mono ((hb (wMix X.K Wout D l) (X.pn ++ pins) xe tkb (by rw [hxe]; exact PassesOwn.looking)).run [] s σ H D (I.toTry _) h) (fun f s1 hsp => ?_) (fun e s1 he => by rw [hxe] at he; exact he)
  match f, hsp with
  | .next, ⟨_, _, J', q⟩ => exact wpAny_execs_nil ⟨_, _, J'.ofTry ok, q⟩
  | .brk, ⟨_, _, J', q⟩ => exact ⟨_, _, J'.ofTry ok, q⟩
  | .cont, ⟨_, _, J', q⟩ => exact ⟨_, _, J'.ofTry ok, q⟩
  | .ret u, ⟨_, _, _, J', r, q⟩ => exact ⟨_, _, _, J'.ofTry ok, r, q⟩
end
end Pw

/-! ## Part C: exceptions of the package whose __init__ says super().__init__(text) and keeps its argument -/
namespace Pw
open PySem PySem.W PySem.Calls PyProof.Rows PySem.HandSPX

/-! ### the text of such an __init__ -/
def eA (f : Str) (p1 p2 : Pos) : Arguments := { posonlyargs := [], args := [{ arg := "self", annotation := none, pos := p1 }, { arg := f, annotation := none, pos := p2 }], vararg := none, kwonlyargs := [], kw_defaults := [], kwarg := none, defaults := [] }
def eB (f msg : Str) (j : Nat) (q1 q2 q3 q4 q5 q6 r1 r2 r3 r4 : Pos) : List Stmt :=
  [.Expr (.Call (.Attribute (.Call (.Name "super" q1) [] [] q2) "__init__" q3) [.Constant (.str msg) j q4] [] q5) q6, .Assign [.Attribute (.Name "self" r1) f r2] (.Name f r3) r4]
def eS (f : Str) : Scope := { kind := .function, names := [(PySem.Str.ofString "self", .local), (f, .local), (PySem.Str.ofString "__class__", .free), (PySem.Str.ofString "super", .globalImplicit)], isGenerator := false, isCoroutine := false, more := [] }

/-- own classes, then the base's mro -/
def isRf : Value → Bool
  | .ref _ => true
  | _ => false
def overB (bmB l : List Value) : Bool := l.dropWhile isRf == bmB
theorem overB_pass {bmB : List Value} (self : Value) (hp : refuseLoop self "__setattr__" bmB = pure ()) : ∀ l : List Value, overB bmB l = true → refuseLoop self "__setattr__" l = pure ()
  | [], e => by
    have e2 : ([] : List Value) = bmB := beq_iff_eq.mp e
    rw [e2]
    exact hp
  | a :: r, e => by
    cases q : isRf a with
    | true =>
      obtain ⟨c, rfl⟩ : ∃ c, a = .ref c := by
        cases a <;> first | exact ⟨_, rfl⟩ | cases q
      rw [refuseLoop_ref]
      refine overB_pass self hp r ?_
      unfold overB at e ⊢
      rw [List.dropWhile_cons, q] at e
      exact e
    | false =>
      have e2 : a :: r = bmB := by
        unfold overB at e
        rw [List.dropWhile_cons, q] at e
        exact beq_iff_eq.mp e
      rw [e2]
      exact hp
theorem overB_has {bmB : List Value} (X : String) : ∀ l : List Value, overB bmB l = true → l.contains (.type X) = bmB.contains (.type X)
  | [], e => by
    have e2 : ([] : List Value) = bmB := beq_iff_eq.mp e
    rw [e2]
  | a :: r, e => by
    cases q : isRf a with
    | true =>
      obtain ⟨c, rfl⟩ : ∃ c, a = .ref c := by
        cases a <;> first | exact ⟨_, rfl⟩ | cases q
      rw [List.contains_cons, overB_has X r (by
        unfold overB at e ⊢
        rw [List.dropWhile_cons, q] at e
        exact e)]
      rfl
    | false =>
      have e2 : a :: r = bmB := by
        unfold overB at e
        rw [List.dropWhile_cons, q] at e
        exact beq_iff_eq.mp e
      rw [e2]

/-- what is known of a base class among the built-in ones -/
structure BaseX (B newId initId : String) (bmB : List Value) : Prop where
  F : ExcBaseFacts B newId initId bmB
  K : KxsFacts B initId
  pass : ∀ self, refuseLoop self "__setattr__" bmB = pure ()
  obj : bmB.contains (.type "object") = true
theorem baseVE : BaseX "ValueError" "ValueError.__new__" "ValueError.__init__" [.type "ValueError", .type "Exception", .type "BaseException", .type "object"] := ⟨F.excBase_ValueError, kxs_ValueError, F.store_ValueError.passes, by decide +kernel⟩
theorem baseIE : BaseX "IndexError" "IndexError.__new__" "IndexError.__init__" [.type "IndexError", .type "LookupError", .type "Exception", .type "BaseException", .type "object"] := ⟨F.excBase_IndexError, kxs_IndexError, fun self => by kernel_rfl, by decide +kernel⟩
theorem baseOE : BaseX "OverflowError" "OverflowError.__new__" "OverflowError.__init__" [.type "OverflowError", .type "ArithmeticError", .type "Exception", .type "BaseException", .type "object"] := ⟨F.excBase_OverflowError, kxs_OverflowError, fun self => by kernel_rfl, by decide +kernel⟩

/-- what the written part says of such a class, at C, its __init__ at fI -/
structure SupC (K : Frag) (prog : Program) (C fI : Addr) (f : Str) (B newId initId : String) (bmB : List Value) : Prop where
  cls : ∃ nm q N bs bm sn sub ab col dd k0 k1 k2 k3 k5, K.lookup C = some (excClassObj nm q C N bs bm true sn sub ab col dd k0 k1 k2 k3 k5 newId) ∧ overB bmB bm = true ∧ alongIn K "__init__" bm = some (some (.builtin initId))
  sa : findIn K (.ref C) "__setattr__" = some (some (.builtin "object.__setattr__"))
  noN : findIn K (.ref C) f = some none
  iC : findIn K (.ref C) "__init__" = some (some (.ref fI))
  tC : typeIn K (.ref fI) = some (.type "function")
  keep : keepIn K (.ref C) = true
  exC : subIn K (.ref C) (.type "BaseException") = some true
  tyC : typeIn K (.ref C) = some (.type "type")
  sB : subIn K (.ref C) (.type B) = some true
  self : mroIn K C (.ref C) = some true
  opq : nsIn K cStatics "thirdparty.any" = some none
  nsup : nsIn K mainGlobals "super" = some none
  top : (prog.main.scope.names.lookup ("super" : Str)).isSome = false
  kS : (eS f).names.lookup ("self" : Str) = some .local
  kF : (eS f).names.lookup f = some .local
  kC : (eS f).names.lookup ("__class__" : Str) = some .free
  kU : (eS f).names.lookup ("super" : Str) = some .globalImplicit
  bnd : ∀ (qual : Str) (body : List Stmt) (doc pm : Value) (an : Option Addr) (cdv ct : Value) (cc : Addr) (p1 p2 : Pos) (a b : Value), bindArgs (ksFn "__init__" qual (eA f p1 p2) body (eS f) .none .none doc pm an cdv ct cc) ⟨[a, b], []⟩ = pure [(("self" : Str), a), (f, b)]
  nf : (f == ("self" : Str)) = false
  nd : (f == ("__debug__" : Str)) = false
  fn : ∃ (oc : Value) (od : Option Addr) (doc pm : Value) (an : Option Addr) (cda : Addr) (ct : Value) (osl : Array (Option Value)) (qual msg : Str) (j : Nat) (p1 p2 q1 q2 q3 q4 q5 q6 r1 r2 r3 r4 : Pos) (cc : Addr),
    K.lookup fI = some ⟨oc, od, .func (ksFn "__init__" qual (eA f p1 p2) (eB f msg j q1 q2 q3 q4 q5 q6 r1 r2 r3 r4) (eS f) .none .none doc pm an (.ref cda) ct cc), osl⟩ ∧ codeIn K (.ref cda) qual = true ∧ (q3.endLine == q5.line) = true ∧
    (∃ ccl cdd vs ccs file tf, K.lookup cda = some ⟨ccl, cdd, .fields vs, ccs⟩ ∧ vs[2]? = some (.str file tf) ∧ ((prog.main.file : Str) == file) = true) ∧
    ∃ cl cld csl, K.lookup cc = some ⟨cl, cld, .cell (some (.ref C)), csl⟩

/-- what its __init__ leaves of a fresh exception at x -/
structure SupEnd (h h' : Heap) (x C dx t1 : Addr) (f : Str) (v : Value) : Prop where
  keep : ∀ b o, b ≠ x → h.get? b = some o → h'.get? b = some o
  obj : h'.get? x = some { cls := .ref C, dict := some dx, data := .fields #[.ref t1, .none, .none, .none, .bool false, .none] }
  dbig : h.objs.size ≤ dx
  dne : dx ≠ x
  ns : h'.Ns1 dx (fun y => if y = f then some v else none)

section
open Builtin Builtin.ObjectAttr
variable {prog : Program} {w : World} {A : Around} {E : Value → Shared → Prop} {R : Result → Shared → Prop} {hp : Heap} {g : Array GenState} {d : Drawn} {t : Nat} {os : OsState}

/-- self.f = v on an exception without a dict -/
theorem osa_own {K : W.Frag} {name : Str} {tk : Tok} {v : Value} {x C : Addr} {fv : Array Value} {cd : ClassData} {bmB : List Value}
    (X : K.In hp) (hx : hp.get? x = some { cls := .ref C, data := .fields fv }) (hcd : W.clsIn K C = some cd) (hm : overB bmB cd.mro = true) (ne : cd.mro.isEmpty = false) (hps : ∀ self, refuseLoop self "__setattr__" bmB = pure ()) (hob : bmB.contains (.type "object") = true)
    (hh : cd.hasDict = true) (ha : W.findIn K (.ref C) name = some none)
    (hq : ∀ h' tk' dx, (∀ b o, b ≠ x → hp.get? b = some o → h'.get? b = some o) → hp.objs.size ≤ dx → dx ≠ x → h'.get? x = some { cls := .ref C, dict := some dx, data := .fields fv } →
      h'.Ns1 dx (fun y => if y = name then some v else none) → R (.ok (.ret .none)) ⟨h', g, d, tk', os⟩) :
    codeAny (model prog w) A (.call (.builtin "object.__setattr__") ⟨[.ref x, .str name tk, v], []⟩) R ⟨hp, g, d, t, os⟩ := by
  have I : W.InstAt hp x { cls := .ref C, data := .fields fv } C none := ⟨hx, rfl, rfl, trivial⟩
  have SF := F.store_object
  have hob2 : cd.mro.contains (.type "object") = true := (overB_has "object" _ hm).trans hob
  have hxs : x ≠ hp.objs.size := Nat.ne_of_lt (Heap.lt_size hx)
  have isObj : W.Looks (model prog w) hp (isInstance (.ref x) (.type "object")) true := I.type.andThen (W.looks_mroIn X (by unfold W.mroIn; rw [hcd, Option.bind_some, if_neg (by rw [ne]; decide), hob2]))
  refine codeAny_call_builtin SF.slot.plain SF.entry (@W.check_slot (model prog w) _ _ ⟨hp, g, d, t, os⟩ "object.__setattr__" "object" "__setattr__" (.ref x) [.str name tk, v] [] _ SF.kind SF.split isObj (SF.args (.ref x) (.str name tk) v) ?_)
  have hmr : W.Looks (model prog w) hp (mroOf (.ref C)) cd.mro := (W.looks_clsIn X hcd).andThen .now
  have noTaker : W.Looks (model prog w) hp (storeTaker? none) none := .now
  have hcls : W.Looks (model prog w) hp (classData C) cd := W.looks_clsIn X hcd
  rw [W.osa_eq, refuse_eq]
  refine wpAny_bind (wpAny_bind (I.type.at (wpAny_bind (hmr.at ?_))))
  rw [overB_pass _ (hps _) _ hm]
  refine wpAny_pure (wpAny_bind (I.type.at (wpAny_bind ((W.looks_findIn X ha).at (wpAny_bind (noTaker.at ?_))))))
  show wpAny _ _ (storeInOwnDict (.ref x) (.ref C) (.str name tk) name v false) _ _ _
  obtain ⟨nm, bs, mro, ns, qn, hd, sn, sb, ab, col, del⟩ := cd
  dsimp only at hh
  subst hh
  unfold storeInOwnDict ownDictForStores
  repeat (first | with_reducible refine store_in_new ?_ ?_ | with_reducible refine wpAny_loadPart_at hx ?_ | with_reducible refine hcls.at ?_ | wp_step)
  · exact ⟨_, #[], _, (Heap.get?_update_ne _ _ _ _ hxs.symm).trans (Heap.get?_push_at rfl rfl), rfl, fun e he => absurd he (by simp), fun _ => rfl⟩
  · intro h' tk' hn' hs
    have hx1 : (hp.push { cls := .type "dict", data := .dict #[] }).get? x = some { cls := .ref C, data := .fields fv } := Heap.get?_push_of_some _ hx
    refine hq h' tk' hp.objs.size (fun b o hb ho => ?_) (Nat.le_refl _) hxs.symm ?_ hn'
    · exact (hs.2 b (Nat.ne_of_lt (Heap.lt_size ho))).trans ((Heap.get?_update_ne _ _ _ _ hb).trans (Heap.get?_push_of_some _ ho))
    · exact (hs.2 x hxs).trans (Heap.get?_update_self _ hx1 rfl)

/-- the bound built-in __init__, called -/
theorem call_binit {nm q : Str} {C N : Addr} {bs bm bmB : List Value} {sn : List Str} {sub : List Value} {ab : Bool} {col : Option Bool} {dd : Option Addr} {k0 k1 k2 k3 k5 : Option Value} {B newId initId : String} {u e t0 : Addr} {rest : List Value} {Q : Value → Shared → Prop} (FB : ExcBaseFacts B newId initId bmB)
    (hC : hp.get? C = some (excClassObj nm q C N bs bm true sn sub ab col dd k0 k1 k2 k3 k5 newId)) (he : hp.get? e = some (excO C t0)) (hu : hp.get? u = some (kxs_mw initId e)) (hz : rest.length ≤ sizeLine)
    (hq : ∀ h' t1, (∀ b o, b ≠ e → hp.get? b = some o → h'.get? b = some o) → h'.get? e = some (excO C t1) → Q .none ⟨h', g, d, t, os⟩) :
    wpAny (model prog w) A (call (.ref u) rest) Q E ⟨hp, g, d, t, os⟩ := by
  refine wpAny_call (codeAny_of_tree ?_)
  show wpAny _ A.in1 (callAny (.ref u) ⟨rest, []⟩) _ _ _
  simp only [callAny]
  refine wpAny_bind (wpAny_load hu ?_)
  simp only [kxs_mw, show (Value.type "method-wrapper" == Value.type "method" || Value.type "method-wrapper" == Value.type "builtin_function_or_method" || Value.type "method-wrapper" == Value.type "method-wrapper") = true by decide, if_true]
  refine KFB.if_so (by decide) (wpAny_bind (check_bound_init FB.toExcCallFacts hC he rfl (wpAny_bind (wpAny_pure (wpAny_pure ⟨plainId_quiet FB.init.plain _, codeAny_builtin FB.initEntry ?_⟩)))))
  exact exc_init_tree (cls := .ref C) (t0 := t0) (dv := none) (c2 := .none) (c3 := .none) (b4 := .bool false) he hz fun h' k e' _ => hq h' _ k e'
end

section
variable {prog : Program} {w : World} {A : Around} {E : Value → Shared → Prop} {R : Result → Shared → Prop} {s : Shared} {K : Frag} {C fI : Addr} {f : Str} {B newId initId : String} {bmB : List Value} {mg mb : Str → Option Value}
theorem sup_init (BX : BaseX B newId initId bmB) (T : SupC K prog C fI f B newId initId bmB) {x t0 : Addr} {v : Value} (X : K.In s.heap) (hlim : s.heap.NoLimit) (G : s.heap.Ns mainGlobals mg) (Gb : s.heap.Ns builtinsNs mb) (hbb : ∀ x : Str, x ≠ "__name__" → mb x = bootBuiltins x)
    (hx : s.heap.get? x = some (excO C t0)) (hnx : K.lookup x = none) (hroom : A.depth < recursionLimit) (hq : ∀ h' tk dx t1, SupEnd s.heap h' x C dx t1 f v → R (.ok (.ret .none)) { s with heap := h', toks := tk }) :
    codeAny (model prog w) A (.call (.ref fI) ⟨[.ref x, v], []⟩) R s := by
  obtain ⟨oc, od, doc, pm, an, cda, ct, osl, qual, msg, j, p1, p2, q1, q2, q3, q4, q5, q6, r1, r2, r3, r4, cc, lkF, hcd, hline, ⟨ccl, cdd, vs, ccs, file, tf, lkC, hvs, hfile⟩, cl, cld, csl, lkE⟩ := T.fn
  obtain ⟨nm, q, N, bs, bm, sn, sub, ab, col, dd, k0, k1, k2, k3, k5, hC, hover, halong⟩ := T.cls
  have hcl : clsIn K C = some { name := nm, bases := bs, mro := .ref C :: bm, ns := N, qualname := q, hasDict := true, slotNames := sn, subclasses := sub, abstract := ab, collection := col, hasDel := false } := by unfold clsIn; rw [hC] <;> rfl
  have locals : ∀ y ∈ [(("self" : Str), Value.ref x), (f, v)], (eS f).names.lookup y.1 = some .local := by
    intro y hy
    rcases List.mem_cons.mp hy with rfl | hy
    · exact T.kS
    · rcases List.mem_cons.mp hy with rfl | hy
      · exact T.kF
      · cases hy
  have nocell : ∀ y ∈ (eS f).names, y.2 ≠ .cell := by
    intro y hy
    simp only [eS, List.mem_cons, List.not_mem_nil, or_false] at hy
    rcases hy with rfl | rfl | rfl | rfl <;> intro z <;> cases z
  have at_self : ([(("self" : Str), Value.ref x), (f, v)].reverse.lookup ("self" : Str)) = some (.ref x) := by
    show List.lookup ("self" : Str) [(f, v), (("self" : Str), Value.ref x)] = _
    rw [List.lookup_cons, show (("self" : Str) == f) = false from by
      have := T.nf
      rw [beq_eq_false_iff_ne] at this ⊢
      exact this.symm, List.lookup_cons, beq_self_eq_true]
  have at_f : ([(("self" : Str), Value.ref x), (f, v)].reverse.lookup f) = some v := by
    show List.lookup f [(f, v), (("self" : Str), Value.ref x)] = _
    rw [List.lookup_cons, beq_self_eq_true]
  refine ks_codeAny_call_defAt (binds := [(("self" : Str), Value.ref x), (f, v)]) hroom (X _ _ lkF) rfl hlim (codeRec_of X hcd) rfl (BindsTo.of_eq (T.bnd ..)) nocell locals (fun h1 hns k1 => ?_)
  have X1 : K.In h1 := X.keeps k1
  have hx1 := k1 _ _ hx
  have lt1 : s.heap.objs.size < h1.objs.size := hns.lt
  obtain ⟨hp, g, d, tk, os⟩ := s
  dsimp only at *
  have evSup : ∀ env : Env, eval (.Call (.Attribute (.Call (.Name "super" q1) [] [] q2) "__init__" q3) [.Constant (.str msg) j q4] [] q5) env = (do
      let ov ← attributeBase (.Call (.Name "super" q1) [] [] q2) "__init__" env (eval (.Call (.Name "super" q1) [] [] q2) env)
      standAt q3.atName
      let (f, first) ← holding [ov] (getMethod ov "__init__" (L2.plainOf (.Call (.Name "super" q1) [] [] q2) env))
      callWith q5 f first (backTo q5 (starEach [.Constant (.str msg) j q4] env)) []) := by
    intro env
    have e : ∀ ov, methodCall (.Call (.Name "super" q1) [] [] q2) "__init__" q3 q5 env ov 1 (backTo q5 (starEach [.Constant (.str msg) j q4] env)) [] = _ := fun ov => L2.mcall_line rfl hline
    show (do
      let ov ← attributeBase (.Call (.Name "super" q1) [] [] q2) "__init__" env (eval (.Call (.Name "super" q1) [] [] q2) env)
      standAt q3.atName
      methodCall (.Call (.Name "super" q1) [] [] q2) "__init__" q3 q5 env ov 1 (backTo q5 (starEach [.Constant (.str msg) j q4] env)) []) = _
    simp only [e]
  refine ks_wpAt_execs_cons (ks_wpAt_Expr_any (ks_wpAt_MethodCall (ks_wpAt_super_base (ar := { arg := "self", annotation := none, pos := p1 }) T.kU T.kC (by decide +kernel) rfl (X1 _ _ lkF) rfl rfl rfl (X1 _ _ lkC) rfl hvs hfile T.top ?_) (evSup _)))
  refine ks_loadName_global rfl T.kU (loadGlobal_builtin (G.keeps k1) (mg_none_of X G T.nsup) (Gb.keeps k1) ((hbb _ (by decide +kernel)).trans (by decide +kernel)) ⟨rfl, ?_⟩)
  refine wpAny_loadName_free rfl T.kC rfl ⟨_, X1 _ _ lkE, rfl⟩ (wpAny_loadName_local rfl T.kS hns at_self ?_)
  refine ks_wpAny_isType_cls (X1 _ _ hC) rfl ⟨rfl, ?_⟩
  have I1 : InstAt h1 x (excO C t0) C none := ⟨hx1, rfl, rfl, trivial⟩
  refine ks_wpAny_call_super (X1 _ _ hC) rfl hx1 rfl (fun c z => by cases z) (looks_mroIn X1 T.self) (fun h2 so2 k2 => ?_)
  have X2 : K.In h2 := X1.keeps k2
  have I2 : InstAt h2 x (excO C t0) C none := ⟨k2 _ _ hx1, rfl, rfl, trivial⟩
  refine kxs_getMethod BX.K so2 (looks_opaque X2 T.opq) (l₀ := .ref C :: bm) (fun A Q E s k q => wpAny_bind ((looks_clsIn X2 hcl) A _ E s k (wpAny_pure q))) (l := bm) (by simp [List.dropWhile_cons]) X2 halong (I2.type.andThen (looks_subIn X2 T.sB)) (ks_ne X2 I2 hcl) (by decide +kernel) ?_
  have k3 : ∀ b o, h2.get? b = some o → (h2.push (kxs_mw initId x)).get? b = some o := fun b o e => Heap.get?_push_of_some _ e
  have u3 : (h2.push (kxs_mw initId x)).get? h2.objs.size = some (kxs_mw initId x) := Heap.get?_push_at rfl rfl
  have X3 : K.In (h2.push (kxs_mw initId x)) := X2.keeps k3
  refine kxs_callWith (i := initId) (x := x) rfl (evalArgs_plain (Calls.spliced_cons (wpAny_Constant_str (k := j) (pos := q4) (Calls.spliced_nil ⟨u3, ?_⟩))))
  refine call_binit BX.F (X3 _ _ hC) (k3 _ _ I2.at_) u3 (by rw [sizeLine_eq]; show 1 ≤ 16777216; decide) (fun h4 t1 k4 hx4 => ?_)
  -- self.f = f
  have old4 : ∀ b o, b ≠ x → h1.get? b = some o → h4.get? b = some o := fun b o hb e => k4 b o hb (k3 b o (k2 b o e))
  have neL : hp.objs.size ≠ x := Nat.ne_of_gt (Heap.lt_size hx)
  have ns4 : h4.Ns hp.objs.size (fun y => [(("self" : Str), Value.ref x), (f, v)].reverse.lookup y) := by
    obtain ⟨oL, es, ep, hL, r⟩ := hns
    exact ⟨oL, es, ep, old4 _ _ neL hL, r⟩
  have X4 : K.In h4 := fun a o e => by
    have na : a ≠ x := fun z => by
      rw [z, hnx] at e
      cases e
    exact old4 a o na (X1 a o e)
  show PySem.wpAt _ _ _ (execs _ _) _ _ _
  refine ks_wpAt_execs_cons (ks_wpAt_Assign_Attr (wpAt_of_wpAny (wpAny_Name (wpAny_loadName_local rfl T.kF ns4 at_f (wpAny_Name (wpAny_loadName_local rfl T.kS ns4 at_self ?_) (by decide))) T.nd)))
  refine set_plain X4 (ox := excO C t1) (od := none) ⟨hx4, rfl, rfl, trivial⟩ T.sa ?_
  refine osa_own (bmB := bmB) X4 hx4 hcl (show overB bmB (.ref C :: bm) = true from hover) rfl BX.pass BX.obj rfl T.noN (fun h5 tk5 dx k5 dn dne hx5 hn5 => ?_)
  show PySem.wpAt _ _ _ (execs _ _) _ _ _
  refine wpAt_of_wpAny (wpAny_execs_nil (hq h5 _ dx t1 ⟨fun b o hb e => k5 b o hb (old4 b o hb (k1 b o e)), hx5, ?_, dne, hn5⟩))
  have z : hp.objs.size < h4.objs.size := ns4.lt
  exact Nat.le_of_lt (Nat.lt_of_lt_of_le z dn)
theorem one_fits (v : Value) : [v].length ≤ sizeLine := by
  rw [sizeLine_eq]
  show 1 ≤ 16777216
  decide
/-- a made exception at e, its own dict at d -/
structure SupMade (h h' : Heap) (e C d : Addr) (f : Str) (v : Value) : Prop where
  keep : ∀ b o, h.get? b = some o → h'.get? b = some o
  new : h.objs.size ≤ e
  obj : ∃ oe vs, h'.get? e = some oe ∧ oe.cls = .ref C ∧ oe.dict = some d ∧ oe.data = .fields vs ∧ vs[1]? = some .none
  dbig : h.objs.size ≤ d
  dne : d ≠ e
  ns : h'.Ns1 d (fun y => if y = f then some v else none)
theorem sup_made (BX : BaseX B newId initId bmB) (T : SupC K prog C fI f B newId initId bmB) {v : Value} (X : K.In s.heap) (hlim : s.heap.NoLimit) (G : s.heap.Ns mainGlobals mg) (Gb : s.heap.Ns builtinsNs mb) (hbb : ∀ x : Str, x ≠ "__name__" → mb x = bootBuiltins x)
    (hroom : A.depth + 1 < recursionLimit) (hq : ∀ h' tk e d, SupMade s.heap h' e C d f v → R (.ok (.ret (.ref e))) { s with heap := h', toks := tk }) :
    codeAny (model prog w) A (.call (.ref C) ⟨[v], []⟩) R s := by
  obtain ⟨nm, q, N, bs, bm, sn, sub, ab, col, dd, k0, k1, k2, k3, k5, hC, hover, halong⟩ := T.cls
  obtain ⟨hp, g, dr, tk, os⟩ := s
  have k : ∀ b o, hp.get? b = some o → ((hp.push (kdv_tup [v])).push (excO C hp.objs.size)).get? b = some o := fun b o e => Heap.get?_push_of_some _ (Heap.get?_push_of_some _ e)
  have hget : ((hp.push (kdv_tup [v])).push (excO C hp.objs.size)).get? (hp.objs.size + 1) = some (excO C hp.objs.size) := by heap_get
  have hnx : K.lookup (hp.objs.size + 1) = none := by
    cases e : K.lookup (hp.objs.size + 1) with
    | none => rfl
    | some o =>
      exact absurd (Nat.lt_of_succ_lt (Heap.lt_size (show hp.get? (hp.objs.size + 1) = some o from X _ _ e))) (Nat.lt_irrefl _)
  refine call_own BX.F (fun Y => overB_has Y bm hover) (X _ _ hC) (looks_findIn X T.iC) (fun self => bind_fn X self T.tC) (one_fits v) ?_
  refine sup_init (s := ⟨(hp.push (kdv_tup [v])).push (excO C hp.objs.size), g, dr, tk, os⟩) BX T (X.keeps k) (hlim.keeps k) (G.keeps k) (Gb.keeps k) hbb hget hnx (show A.depth + 1 < recursionLimit from hroom) fun h' tk' dx t1 ⟨k', hx, dn, dne, hns⟩ => ?_
  have old : ∀ b o, hp.get? b = some o → h'.get? b = some o := fun b o e => k' b o (Nat.ne_of_lt (Nat.lt_succ_of_lt (Heap.lt_size e))) (k b o e)
  have z : hp.objs.size + 1 + 1 ≤ dx := by
    have y := dn
    simp only [Heap.size_push] at y
    exact y
  exact ⟨rfl, hq h' tk' (hp.objs.size + 1) dx ⟨old, Nat.le_succ _, ⟨_, _, hx, rfl, rfl, rfl, rfl⟩, Nat.le_trans (Nat.le_add_right _ 2) z, dne, hns⟩⟩
end
end Pw
namespace Pw
open PySem PySem.Spec PyProof.Rows L2
theorem relO_one {v : V} {v' : Value} {n : Str} (r : RelV v v') (y : Str) : RelO (List.lookup y [(n, v)]) (if y = n then some v' else none) := by
  by_cases e : y = n
  · rw [if_pos e, List.lookup_cons, e, beq_self_eq_true]
    exact r
  · rw [if_neg e, List.lookup_cons, beq_eq_false_iff_ne.mpr e]
    trivial
section
variable {X : Cx} {C fI : Addr} {f : Str} {B newId initId : String} {bmB : List Value}
/-- x(e): a new exception of the class at C, whose dict d holds f = e -/
def tMkSup (C : Addr) (f : Str) (ta : TA) : L2.St → Hp → XK → Prop := fun σ H Q => ta σ H fun vs H1 => ∃ v, vs = [v] ∧ ∀ d, H1 d = none → Q (.ref C) (some d) (upd H1 d (.xd [(f, v)]))
theorem pmk_sup {x : Str} {a : Expr} {ta : TA} {p pos : Pos} {k : Nat} (BX : BaseX B newId initId bmB) (T : SupC X.K X.prog C fI f B newId initId bmB) (gC : X.mg x = some (.ref C)) (hr : Room k X.A) (ha : PA X [a] ta) (hg : Gl X x) (hdb : (x == ("__debug__" : Str)) = false := by decide)
    (he : starEach (a :: []) X.env = (false, eval a X.env) :: starEach [] X.env := by rfl) (hpl : (backTo pos (starEach [] X.env)).any (·.1) = false := by rfl) :
    PMk X (.Call (.Name x p) [a] [] pos) (tMkSup C f ta) := by
  intro pins s σ H Q I h
  refine wpAny_Call_Name_kw (ld_glob I hg gC ?_ hdb)
  refine PySem.W.callWith_K (h₀ := X.base) I.ok.mod.kin T.keep (thn (ha.run pos pins s σ H _ I h) fun us s1 hh => ?_) he hpl
  obtain ⟨vs, H1, I1, r1, v, rfl, q1⟩ := hh
  refine ⟨I1.kIn, ?_⟩
  obtain ⟨v', rfl, rv⟩ : ∃ v', us = [v'] ∧ RelV v v' := by
    cases r1 with
    | cons rv rn =>
      cases rn
      exact ⟨_, rfl, rv⟩
  show wpAny _ _ (call (.ref C) [v']) _ _ _
  have hlim := I1.nolimit
  obtain ⟨mb, Gb, hbb⟩ := I1.ok.mod.blt
  have kb := I1.bk
  have Gg := I1.ok.mod.glob
  have KX := I1.kIn
  have dep := hr.dp
  obtain ⟨hp, g, dr, tk, os⟩ := s1
  refine wpAny_call (sup_made (s := ⟨hp, g, dr, tk, os⟩) (mg := X.mg) (mb := mb) BX T KX hlim (Gg.keeps kb) (Gb.keeps kb) hbb (by show X.A.depth + 1 < recursionLimit; omega) fun h' tk' e d M => ?_)
  show MkP X pins σ Q (.ref e) ⟨h', g, dr, tk', os⟩
  obtain ⟨oe, fv, hoe, hc, hd, hdat, h1⟩ := M.obj
  obtain ⟨G', g1, g2⟩ := restrict h' fun b => decide (b ≠ e)
  have gk : ∀ b, b ≠ e → G'.get? b = h'.get? b := fun b hb => g1 b (decide_eq_true hb)
  have ge : G'.get? e = none := g2 e (by simp)
  have old : ∀ b o, hp.get? b = some o → G'.get? b = some o := fun b o q => (gk b (Nat.ne_of_lt (Nat.lt_of_lt_of_le (Heap.lt_size q) M.new))).trans (M.keep b o q)
  have ob : ObjOk X.prog X.w (upd H1 d (.xd [(f, v)])) G' d (.xd [(f, v)]) := ⟨_, M.ns.at (fun o q => (gk d M.dne).trans q), relO_one rv⟩
  have J : Inv X pins σ (upd H1 d (.xd [(f, v)])) ⟨G', g, dr, tk', os⟩ := I1.laid (t' := tk') old M.dbig ob
  refine ⟨e, oe, fv, ⟨G', g, dr, tk', os⟩, _, .ref C, some d, rfl, J, fun b o q => ?_, ge, hoe, ⟨hc, hd⟩, hdat, h1, ?_, rfl, I1.bare, raises_own T.exC T.tyC, q1 d (I1.hok.fresh M.dbig)⟩
  · by_cases hb : b = e
    · rw [hb] at q
      cases ge.symm.trans q
    · exact (gk b hb).symm.trans q
  · rw [upd_ne (Ne.symm M.dne)]
    exact I1.hok.fresh M.new
end
end Pw

/-! ## Part D: repr of data; rules of several kinds joined; the heap -/
namespace Pw
open PySem PySem.Spec PyProof.Rows L2

/-! ### repr -/
def rReprD (K : PySem.W.Frag) : List V → Hp → VK → Prop := fun xs H Q => ∃ x d, xs = [x] ∧ Dp K H x d ∧ d.showable = true ∧ d.hasDict = false ∧ d.depth ≤ 64 ∧ d.shown.length ≤ sizeLine ∧ Q (.str d.shown) H
theorem call_reprD {X : Cx} (hg : X.A.guards = some []) (hu : X.A.units + 66 < cLine) : CallR X (.builtin "repr") (rReprD X.K) := by
  rintro pins s σ H xs us Q I r ⟨x, d, rfl, hd, hs, hn, hdp, hz, q⟩
  obtain ⟨u, rfl, ru⟩ := vals1 r
  cases hd with
  | non =>
    cases (show u = Value.none from ru)
    exact PySem.P.repr_of_none ⟨.str _, H, I.tok _, ⟨_, rfl⟩, by simpa only [PyData.shown] using q⟩
  | bl b =>
    cases (show u = Value.bool b from ru)
    exact PySem.P.repr_of_bool ⟨.str _, H, I.tok _, ⟨_, rfl⟩, by simpa only [PyData.shown] using q⟩
  | int i =>
    obtain ⟨t, rfl⟩ := ru
    exact PySem.P.repr_of_int (by simpa [PyData.showable] using hs) ⟨.str _, H, I.tok _, ⟨_, rfl⟩, by simpa only [PyData.shown] using q⟩
  | str y =>
    obtain ⟨t, rfl⟩ := ru
    exact PySem.P.repr_of_str ⟨.str _, H, I.tok _, ⟨_, rfl⟩, by simpa only [PyData.shown] using q⟩ (by simpa only [PyData.shown] using hz)
  | lst h1 h2 =>
    have hr := Dp.reads I _ _ _ (Dp.lst h1 h2) ru
    obtain ⟨as, hr⟩ := hr
    cases ru
    exact PySem.repr_of_reads' hr hs (fun e => by rw [hn] at e; cases e) hg (by omega) (fun _ _ e => e) (fun h' t tk k => ⟨.str _, H, I.kept k, ⟨_, rfl⟩, q⟩) hz
  | tup h1 h2 =>
    have hr := Dp.reads I _ _ _ (Dp.tup h1 h2) ru
    obtain ⟨as, hr⟩ := hr
    cases ru
    exact PySem.repr_of_reads' hr hs (fun e => by rw [hn] at e; cases e) hg (by omega) (fun _ _ e => e) (fun h' t tk k => ⟨.str _, H, I.kept k, ⟨_, rfl⟩, q⟩) hz
/-! ### s * n -/
def repS (s : Str) (n : Nat) : Str := ⟨(List.replicate n s.cps.toList).flatten.toArray⟩
theorem foldl_repA (l : List Nat) : ∀ (n : Nat) (acc : List Nat), (List.replicate n l.toArray).foldl (· ++ ·) acc.toArray = (acc ++ (List.replicate n l).flatten).toArray
  | 0, acc => by simp
  | n + 1, acc => by
    rw [List.replicate_succ, List.foldl_cons, List.replicate_succ, List.flatten_cons]
    have e : acc.toArray ++ l.toArray = (acc ++ l).toArray := by simp
    rw [e, foldl_repA l n (acc ++ l), List.append_assoc]
def rRepS : R2 := fun x y H Q => ∃ s n, x = .str s ∧ y = .int n ∧ 0 ≤ n ∧ n ≤ 100000 ∧ s.length ≤ 100 ∧ Q (.str (repS s n.toNat)) H
theorem op_repS {X : Cx} : OpR X (binaryOp .Mult) rRepS := by
  rintro pins s σ H x y v u Q I rx ry ⟨z, n, rfl, rfl, h0, h1, hz, q⟩
  obtain ⟨t, rfl⟩ := rx
  obtain ⟨t', rfl⟩ := ry
  have sm : z.length * n.toNat ≤ 100 * 100000 := Nat.mul_le_mul hz (by omega)
  refine PySem.P.mul_str ?_ ?_ ?_ ?_
  · rw [decide_eq_false (by omega), decide_eq_false (by omega)]
    rfl
  · intro c _ h
    have hn : (0 : Int) < n := by omega
    have h2 : (z.length : Int) * n ≤ 100 * 100000 := by
      have e : (z.length : Int) * n = ((z.length * n.toNat : Nat) : Int) := by
        rw [Int.natCast_mul, Int.toNat_of_nonneg h0]
      omega
    have h3 : (z.length : Int) ≤ (2 ^ 63 - 1) / n := by
      rw [Int.le_ediv_iff_mul_le hn]
      omega
    omega
  · intro _ _
    show decide _ = false
    rw [sizeLine_eq]
    exact decide_eq_false (by omega)
  · have fin : ∀ (y : Str) (tk : Nat) (tt : Tok), y = repS z n.toNat → EP X pins σ Q (.str y tt) { s with toks := tk } := fun y tk tt e => ⟨.str _, H, I.tok tk, ⟨tt, rfl⟩, by rw [e]; exact q⟩
    have len : (repS z n.toNat).length ≤ sizeLine := by
      have : (repS z n.toNat).length = n.toNat * z.length := by simp [repS, Str.length]
      rw [this, sizeLine_eq, Nat.mul_comm]
      omega
    by_cases c1 : n < 1
    · rw [if_pos c1]
      have e : n.toNat = 0 := by omega
      refine ⟨by decide, fin _ _ _ ?_⟩
      rw [e]
      rfl
    · rw [if_neg c1]
      by_cases c2 : (n == 1 || z.length == 0) = true
      · rw [if_pos c2]
        refine fin _ s.toks _ ?_
        rcases (Bool.or_eq_true_iff.mp c2) with c | c
        · have e : n.toNat = 1 := by have := beq_iff_eq.mp c; omega
          rw [e]
          simp [repS]
        · have e : z.cps = #[] := by
            have := beq_iff_eq.mp c
            exact Array.eq_empty_of_size_eq_zero this
          obtain ⟨cps⟩ := z
          simp only at e
          subst e
          simp [repS]
      · rw [if_neg c2]
        have e : (⟨(List.replicate n.toNat z.cps).foldl (· ++ ·) #[]⟩ : Str) = repS z n.toNat := by
          have := foldl_repA z.cps.toList n.toNat []
          simp only [Array.toArray_toList, List.nil_append] at this
          unfold repS
          rw [← this]
        rw [e]
        exact ⟨len, fin _ _ _ rfl⟩
/-! ### slices of a list, a tuple, a text -/
def rSl (K : PySem.W.Frag) : V → Option Int → Option Int → Hp → VK → Prop := fun x lo hi H Q => rSlL K x lo hi H Q ∨ rSlA K x lo hi H Q ∨ rSlS x lo hi H Q
theorem sl_any {X : Cx} (K : PySem.W.Frag) (hK : X.K = K := by rfl) : SlR X (rSl K) := by subst hK; exact sl_list.or (sl_tupA.or sl_str)
end Pw

/-! ## Part E: operators by all their kinds, and how readings are answered -/
namespace Pw
open PySem PySem.Spec PyProof.Rows L2

/-! ### operators -/
def kAdd (K : PySem.W.Frag) : R2 := fun x y H Q => (∃ i j, x = .int i ∧ y = .int j ∧ Q (.int (i + j)) H) ∨ (∃ i j, x = .str i ∧ y = .str j ∧ i.length + j.length ≤ sizeLine ∧ Q (.str (i ++ j)) H) ∨ rCat x y H Q ∨ rCatA K x y H Q
def kMul : R2 := fun x y H Q => rI CMul (fun i j => .int (i * j)) x y H Q ∨ rI CMulW (fun i j => .int (i * j)) x y H Q ∨ rRep x y H Q ∨ rRepS x y H Q
def kFd : R2 := rI CDivW fun i j => .int (i / j)
def kMod : R2 := rI (fun _ j => 0 < j) fun i j => .int (i % j)
def kPow : R2 := rI CPow fun i j => .int (i ^ j.toNat)
def kSub : R2 := rI0 fun i j => .int (i - j)
def kLt : R2 := fun x y H Q => rI0 (fun i j => .bl (decide (i < j))) x y H Q ∨ (∃ i j, x = .str i ∧ y = .str j ∧ Q (.bl (decide (i.cps.toList < j.cps.toList))) H)
def kLe : R2 := fun x y H Q => rI0 (fun i j => .bl (decide (i ≤ j))) x y H Q ∨ (∃ i j, x = .str i ∧ y = .str j ∧ Q (.bl (!decide (j.cps.toList < i.cps.toList))) H)
def kGt : R2 := fun x y H Q => rI0 (fun i j => .bl (decide (j < i))) x y H Q ∨ (∃ i j, x = .str i ∧ y = .str j ∧ Q (.bl (decide (j.cps.toList < i.cps.toList))) H)
def kGe : R2 := fun x y H Q => rI0 (fun i j => .bl (decide (j ≤ i))) x y H Q ∨ (∃ i j, x = .str i ∧ y = .str j ∧ Q (.bl (!decide (i.cps.toList < j.cps.toList))) H)
def kEq (K : PySem.W.Frag) : R2 := fun x y H Q => rEq x y H Q ∨ rEqD K x y H Q
def kNe (K : PySem.W.Frag) : R2 := fun x y H Q => rNe x y H Q ∨ rNeD K x y H Q
def kIs : R2 := fun x y H Q => (y = .non ∧ Q (.bl (decide (x = .non))) H) ∨ rIsB x y H Q
def kIsNot : R2 := fun x y H Q => (y = .non ∧ Q (.bl (!decide (x = .non))) H) ∨ rNotB x y H Q
section
variable {X : Cx}
theorem o_add (K : PySem.W.Frag) (hK : X.K = K := by rfl) : OpR X (binaryOp .Add) (kAdd K) := by subst hK; exact op_add.or (op_add_str.or (op_cat.or op_catA))
theorem o_mul : OpR X (binaryOp .Mult) kMul := op_mul.or (op_mulW.or (op_rep.or op_repS))
theorem o_fd : OpR X (binaryOp .FloorDiv) kFd := op_fdivW
theorem o_mod : OpR X (binaryOp .Mod) kMod := op_mod
theorem o_pow : OpR X (binaryOp .Pow) kPow := op_pow
theorem o_sub : OpR X (binaryOp .Sub) kSub := op_sub
theorem o_lt : OpR X (compareOp .Lt) kLt := op_lt.or op_lt_str
theorem o_le : OpR X (compareOp .LtE) kLe := op_le.or op_le_str
theorem o_gt : OpR X (compareOp .Gt) kGt := op_gt.or op_gt_str
theorem o_ge : OpR X (compareOp .GtE) kGe := op_ge.or op_ge_str
theorem o_eq (K : PySem.W.Frag) (hu : X.A.units + 64 < cLine) (hK : X.K = K := by rfl) : OpR X (compareOp .Eq) (kEq K) := by subst hK; exact op_eq.or (op_eqD hu)
theorem o_ne (K : PySem.W.Frag) (hu : X.A.units + 64 < cLine) (hK : X.K = K := by rfl) : OpR X (compareOp .NotEq) (kNe K) := by subst hK; exact op_ne.or (op_neD hu)
theorem o_is : OpR X (compareOp .Is) kIs := op_isN.or op_isBl
theorem o_isnot : OpR X (compareOp .IsNot) kIsNot := op_notN.or op_notBl
end
/-! ### calls of built-ins -/
def kLen (K : PySem.W.Frag) : List V → Hp → VK → Prop := fun xs H Q => (∃ p ys, xs = [.ref p] ∧ (SqL K H p ys ∨ SqT K H p ys) ∧ Q (.int ys.length) H) ∨ (∃ z, xs = [.str z] ∧ z.length ≤ sizeLine ∧ Q (.int z.length) H)
def kInt : List V → Hp → VK → Prop := fun xs H Q => ((∃ i, xs = [.int i] ∧ Q (.int i) H) ∨ ∃ k, xs = [.bl k] ∧ Q (.int (if k then 1 else 0)) H) ∨ ∃ a n, xs = [.str a] ∧ PySem.intText? a = some n ∧ a.length ≤ 640 ∧ Q (.int n) H
def kAbs : List V → Hp → VK → Prop := fun xs H Q => ∃ i, xs = [.int i] ∧ Q (.int (if i < 0 then -i else i)) H
def kMax2 : List V → Hp → VK → Prop := fun xs H Q => ∃ i j, xs = [.int i, .int j] ∧ Q (.int (if j > i then j else i)) H
def kMin2 : List V → Hp → VK → Prop := fun xs H Q => ∃ i j, xs = [.int i, .int j] ∧ Q (.int (if j < i then j else i)) H
theorem c_abs {X : Cx} : CallR X (.builtin "abs") kAbs := call_abs
theorem c_max2 {X : Cx} (hc : X.calm = true) : CallR X (.builtin "max") kMax2 := call_max2 hc
theorem c_min2 {X : Cx} (hc : X.calm = true) : CallR X (.builtin "min") kMin2 := call_min2 hc
theorem c_len {X : Cx} (K : PySem.W.Frag) (hK : X.K = K := by rfl) : CallR X (.builtin "len") (kLen K) := by subst hK; exact call_len_seq.or call_len_str
theorem c_repr {X : Cx} (K : PySem.W.Frag) (hg : X.A.guards = some []) (hu : X.A.units + 66 < cLine) (hK : X.K = K := by rfl) : CallR X (.builtin "repr") (rReprD K) := by subst hK; exact call_reprD hg hu
theorem ixA {X : Cx} (K : PySem.W.Frag) (hK : X.K = K := by rfl) : IxR X (rIx K) := by subst hK; exact ix_seq
theorem c_int {X : Cx} : CallR X (.type "int") kInt := call_int1.or call_int_str

/-! ### the heap grows; a die may roll -/
abbrev Ext (H H' : Hp) : Prop := ∀ a o, H a = some o → H' a = some o
/-- a list of three ints: it may be a die -/
def dieO : HO → Bool
  | .lst [.int _, .int _, .int _] => true
  | _ => false
abbrev ExtR (H H' : Hp) : Prop := ∀ a o, dieO o = false → H a = some o → H' a = some o
theorem Ext.refl {H : Hp} : Ext H H := fun _ _ h => h
theorem Ext.trans {H H' H'' : Hp} (h : Ext H H') (h' : Ext H' H'') : Ext H H'' := fun a o e => h' a o (h a o e)
theorem Ext.r {H H' : Hp} (h : Ext H H') : ExtR H H' := fun a o _ e => h a o e
theorem ExtR.refl {H : Hp} : ExtR H H := fun _ _ _ h => h
theorem ExtR.trans {H H' H'' : Hp} (h : ExtR H H') (h' : ExtR H' H'') : ExtR H H'' := fun a o n e => h' a o n (h a o n e)
theorem ext_upd {H : Hp} {p : Addr} {o : HO} (h : H p = none) : Ext H (upd H p o) := fun a u e => by
  rw [upd_ne (ne_of_none e h)]
  exact e
theorem extR_die {H : Hp} {p : Addr} {a b c a' b' c' : Int} (h : H p = some (.lst [.int a, .int b, .int c])) : ExtR H (upd H p (.lst [.int a', .int b', .int c'])) := fun q u n e => by
  rw [upd_ne (ne_of e h (by rintro rfl; cases n))]
  exact e
/-- all but the object at d stands -/
abbrev ExtD (d : Addr) (H H' : Hp) : Prop := ∀ a o, a ≠ d → H a = some o → H' a = some o
def Die (H : Hp) (d : Addr) : Prop := ∃ a b c : Int, 0 ≤ a ∧ H d = some (.lst [.int a, .int b, .int c])
theorem Ext.d {d : Addr} {H H' : Hp} (h : Ext H H') : ExtD d H H' := fun a o _ e => h a o e
theorem ExtD.refl {d : Addr} {H : Hp} : ExtD d H H := fun _ _ _ h => h
theorem ExtD.trans {d : Addr} {H H' H'' : Hp} (h : ExtD d H H') (h' : ExtD d H' H'') : ExtD d H H'' := fun a o n e => h' a o n (h a o n e)
theorem ExtD.r {d : Addr} {H H' : Hp} (h : ExtD d H H') (hd : Die H d) : ExtR H H' := fun a o n e => by
  refine h a o ?_ e
  rintro rfl
  obtain ⟨x, y, z, _, e2⟩ := hd
  rw [e] at e2
  cases e2
  cases n
theorem extD_upd {d : Addr} {H : Hp} {o : HO} : ExtD d H (upd H d o) := fun a u n e => by
  rw [upd_ne n]
  exact e
theorem Die.ext {H H' : Hp} {d : Addr} (h : Die H d) (x : Ext H H') : Die H' d := by
  obtain ⟨a, b, c, h1, h2⟩ := h
  exact ⟨a, b, c, h1, x _ _ h2⟩
theorem Die.ne {H : Hp} {d p : Addr} (h : Die H d) (hp : H p = none) : p ≠ d := by
  obtain ⟨a, b, c, _, h2⟩ := h
  rintro rfl
  rw [hp] at h2
  cases h2
theorem Die.neL {H : Hp} {d p : Addr} {o : HO} (h : Die H d) (hp : H p = some o) (n : dieO o = false) : p ≠ d := by
  obtain ⟨a, b, c, _, h2⟩ := h
  rintro rfl
  rw [hp] at h2
  cases h2
  cases n
theorem sqL_D {d : Addr} {K : PySem.W.Frag} {H H' : Hp} {a : Addr} {xs : List V} (x : ExtD d H H') (h : SqL K H a xs) (n : a ≠ d) : SqL K H' a xs := by
  rcases h with (h | ⟨o, h⟩) | h
  · exact .inl (.inl (x _ _ n h))
  · exact .inl (.inr ⟨o, x _ _ n h⟩)
  · exact .inr h
theorem sqT_ext {K : PySem.W.Frag} {H H' : Hp} {a : Addr} {xs : List V} (x : ExtR H H') (h : SqT K H a xs) : SqT K H' a xs := by
  rcases h with (h | ⟨o, h⟩) | h
  · exact .inl (.inl (x _ _ rfl h))
  · exact .inl (.inr ⟨o, x _ _ rfl h⟩)
  · exact .inr h
theorem sqL_ext {K : PySem.W.Frag} {H H' : Hp} {a : Addr} {xs : List V} (x : ExtR H H') (h : SqL K H a xs) (n : dieO (.lst xs) = false) : SqL K H' a xs := by
  rcases h with (h | ⟨o, h⟩) | h
  · exact .inl (.inl (x _ _ n h))
  · exact .inl (.inr ⟨o, x _ _ rfl h⟩)
  · exact .inr h

def ab (i : Int) : Int := if i < 0 then -i else i
theorem ab_nonneg (i : Int) : 0 ≤ ab i := by unfold ab; split <;> omega
theorem units66 {k : Nat} {A : Around} (hr : Room k A) : A.units + 66 < cLine := by
  have := hr.un
  omega
theorem fitsB {n : Nat} (h : Nat.ble n 1000000 = true) : n ≤ sizeLine := by
  rw [sizeLine_eq]
  exact Nat.le_trans (Nat.le_of_ble_eq_true h) (by decide)
/-- a new list, a new tuple of these -/
def newL (Q : VK) (xs : List V) (H : Hp) : Prop := xs.length ≤ sizeLine ∧ ∀ p, H p = none → Q (.ref p) (upd H p (.lst xs))
def newT (Q : VK) (xs : List V) (H : Hp) : Prop := xs.length ≤ sizeLine ∧ ∀ p, H p = none → Q (.ref p) (upd H p (.tup xs))
/-! ### answers: statements -/
section
variable {D : Ends} {σ : L2.St} {H : Hp} {te ta tb tc : TE} {t u : TS} {c c' : TT} {g : TG} {i j k : Nat} {K : PySem.W.Frag} {Q : VK} {R : Bool → Hp → Prop} {QA : List V → Hp → Prop} {QS : L2.St → Hp → Prop} {v w x y : V} {vs : List V} {tas : TA}
theorem w_seq (h : t { D with nx := u D } σ H) : tSeq t u D σ H := h
/-- what comes behind, by a name -/
theorem w_seqH (h : ∀ N : L2.St → Hp → Prop, N = u D → t { D with nx := N } σ H) : tSeq t u D σ H := h _ rfl
theorem w_hide {tx : TE} (h : ∀ C : VK, C = Q → tx σ H C) : tx σ H Q := h _ rfl
theorem w_hideT {tx : TT} (h : ∀ C : Bool → Hp → Prop, C = R → tx σ H C) : tx σ H R := h _ rfl
theorem w_next (h : D.nx σ H) : tNext D σ H := h
theorem w_asg (h : te σ H fun x H1 => g x σ H1 D.nx) : tAsg te g D σ H := h
theorem w_name (h : QS (σ.set i (some v)) H) : gName i v σ H QS := h
theorem w_gsub {to ti : TE} {ts : TSet} (h : to σ H fun o H1 => ti σ H1 fun i H2 => ts o i v H2 fun H3 => QS σ H3) : gSub to ti ts v σ H QS := h
theorem w_setL {p : Addr} {xs : List V} {n : Int} {j : Nat} {QH : Hp → Prop} (hp : H p = some (.lst xs)) (hj : ixN xs.length n = some j) (h : QH (upd H p (.lst (xs.set j v)))) : rSetL (.ref p) (.int n) v H QH := ⟨p, xs, n, j, rfl, rfl, hp, hj, h⟩
theorem w_ifS (h : c σ H fun b H1 => if b = true then t D σ H1 else u D σ H1) : tIfS c t u D σ H := h
theorem w_ret (h : te σ H D.rt) : tRet te D σ H := h
theorem w_drop (h : te σ H fun _ H1 => D.nx σ H1) : tDrop te D σ H := h
/-! tests -/
theorem w_test (h : te σ H fun x H' => ∃ k, x = .bl k ∧ R k H') : tTest te σ H R := h
theorem w_tB (h : te σ H fun x H' => ∃ k, x = .bl k ∧ R k H') : tB te σ H R := h
theorem w_bl {b : Bool} (h : R b H) : ∃ k, V.bl b = .bl k ∧ R k H := ⟨b, rfl, h⟩
theorem w_and (h : c σ H fun b H1 => if b = true then c' σ H1 R else R false H1) : tAnd c c' σ H R := h
theorem w_or (h : c σ H fun b H1 => if b = true then R true H1 else c' σ H1 R) : tOr c c' σ H R := h
theorem w_not (h : c σ H fun b H1 => R (!b) H1) : tNot c σ H R := h
theorem w_andV (h : ta σ H fun x H1 => ∃ b, x = .bl b ∧ if b = true then tb σ H1 Q else Q (.bl false) H1) : tAndV ta tb σ H Q := h
theorem w_orV (h : ta σ H fun x H1 => ∃ b, x = .bl b ∧ if b = true then Q (.bl true) H1 else tb σ H1 Q) : tOrV ta tb σ H Q := h
theorem w_notV (h : ta σ H fun x H1 => ∃ b, x = .bl b ∧ Q (.bl (!b)) H1) : tNotV ta σ H Q := h
theorem w_bV {b : Bool} {P : Bool → Prop} (h : P b) : ∃ k, V.bl b = .bl k ∧ P k := ⟨b, rfl, h⟩
theorem w_ifE (h : c σ H fun b H1 => if b = true then ta σ H1 Q else tb σ H1 Q) : tIf c ta tb σ H Q := h
theorem w_iteD {p : Prop} [Decidable p] {A B : Prop} (h1 : p → A) (h2 : ¬ p → B) : if decide p = true then A else B := by
  by_cases h : p
  · rw [if_pos (decide_eq_true h)]; exact h1 h
  · rw [if_neg (by simpa using h)]; exact h2 h
theorem w_iteN {b : Bool} {A B : Prop} (h : if b = true then B else A) : if (!b) = true then A else B := by
  cases b <;> exact h
theorem w_iteT {A B : Prop} (h : A) : if true = true then A else B := by rw [if_pos rfl]; exact h
theorem w_iteF {A B : Prop} (h : B) : if false = true then A else B := by rw [if_neg Bool.false_ne_true]; exact h
theorem w_iteG {b : Bool} {A B : Prop} (h : if b = true then A else B) : if b = true then A else B := h
theorem w_iteTe {b : Bool} {A B : Prop} (e : b = true) (h : A) : if b = true then A else B := by rw [if_pos e]; exact h
theorem w_iteFe {b : Bool} {A B : Prop} (e : b = false) (h : B) : if b = true then A else B := by rw [if_neg (by rw [e]; exact Bool.false_ne_true)]; exact h
theorem w_iteDt {p : Prop} [Decidable p] {A B : Prop} (e : p) (h : A) : if decide p = true then A else B := by rw [if_pos (decide_eq_true e)]; exact h
theorem w_iteDf {p : Prop} [Decidable p] {A B : Prop} (e : ¬ p) (h : B) : if decide p = true then A else B := by rw [if_neg (by simpa using e)]; exact h
theorem w_iteB {b : Bool} {A B : Prop} (h1 : b = true → A) (h2 : b = false → B) : if b = true then A else B := by
  cases b
  · rw [if_neg Bool.false_ne_true]; exact h2 rfl
  · rw [if_pos rfl]; exact h1 rfl
/-! expressions -/
theorem w_var (e : σ[i]? = some (some v)) (h : Q v H) : tVar i σ H Q := ⟨v, e, h⟩
theorem w_c (h : Q v H) : tC v σ H Q := h
theorem w_op {r : R2} (h : ta σ H fun x H1 => tb σ H1 fun y H2 => r x y H2 Q) : tOp r ta tb σ H Q := h
theorem w_un {r : V → Hp → VK → Prop} (h : ta σ H fun x H1 => r x H1 Q) : tUn r ta σ H Q := h
theorem w_nil (h : QA [] H) : tNil σ H QA := h
theorem w_cons (h : ta σ H fun x H1 => tas σ H1 fun xs H2 => QA (x :: xs) H2) : tCons ta tas σ H QA := h
theorem w_tup (h : tas σ H fun xs H1 => newT Q xs H1) : tTup tas σ H Q := h
theorem w_lst (h : tas σ H fun xs H1 => newL Q xs H1) : tLst tas σ H Q := h
/-- a new object: its place, and that all else stands -/
theorem w_newL {xs : List V} (hl : Nat.ble xs.length 1000000 = true) (h : ∀ p H', H p = none → Ext H H' → H' p = some (.lst xs) → H' = upd H p (.lst xs) → Q (.ref p) H') : newL Q xs H :=
  ⟨fitsB hl, fun p hp => h p _ hp (ext_upd hp) upd_same rfl⟩
theorem w_newT {xs : List V} (hl : Nat.ble xs.length 1000000 = true) (h : ∀ p H', H p = none → Ext H H' → H' p = some (.tup xs) → H' = upd H p (.tup xs) → Q (.ref p) H') : newT Q xs H :=
  ⟨fitsB hl, fun p hp => h p _ hp (ext_upd hp) upd_same rfl⟩
theorem w_CB {r : List V → Hp → VK → Prop} (h : tas σ H fun vs H1 => r vs H1 Q) : tCB r tas σ H Q := h
theorem w_callS {sp : Sp} {E : L2.St → XK} (h : tas σ H fun vs H1 => sp vs H1 Q (E σ)) : tCallS sp E tas σ H Q := h
/-! operators -/
variable {a b : Int} {s z : Str}
theorem w_add_i (h : Q (.int (a + b)) H) : kAdd K (.int a) (.int b) H Q := .inl ⟨a, b, rfl, rfl, h⟩
theorem w_add_s (hl : s.length + z.length ≤ sizeLine) (h : Q (.str (s ++ z)) H) : kAdd K (.str s) (.str z) H Q := .inr (.inl ⟨s, z, rfl, rfl, hl, h⟩)
theorem w_sub (h : Q (.int (a - b)) H) : kSub (.int a) (.int b) H Q := ⟨a, b, rfl, rfl, h⟩
theorem w_mul_l (hl : -(2 ^ 64) < a ∧ a < 2 ^ 64) (h : Q (.int (a * b)) H) : kMul (.int a) (.int b) H Q := .inl ⟨a, b, rfl, rfl, .inl hl, h⟩
theorem w_mul_r (hl : -(2 ^ 64) < b ∧ b < 2 ^ 64) (h : Q (.int (a * b)) H) : kMul (.int a) (.int b) H Q := .inl ⟨a, b, rfl, rfl, .inr hl, h⟩
theorem w_mul_w (hl : CMulW a b) (h : Q (.int (a * b)) H) : kMul (.int a) (.int b) H Q := .inr (.inl ⟨a, b, rfl, rfl, hl, h⟩)
theorem w_mul_s {n : Int} (h0 : 0 ≤ n) (h1 : n ≤ 100000) (hz : s.length ≤ 100) (h : Q (.str (repS s n.toNat)) H) : kMul (.str s) (.int n) H Q := .inr (.inr (.inr ⟨s, n, rfl, rfl, h0, h1, hz, h⟩))
theorem w_fd (hl : CDivW a b) (h : Q (.int (a / b)) H) : kFd (.int a) (.int b) H Q := ⟨a, b, rfl, rfl, hl, h⟩
theorem w_mod (hl : 0 < b) (h : Q (.int (a % b)) H) : kMod (.int a) (.int b) H Q := ⟨a, b, rfl, rfl, hl, h⟩
theorem w_pow (hl : CPow a b) (h : Q (.int (a ^ b.toNat)) H) : kPow (.int a) (.int b) H Q := ⟨a, b, rfl, rfl, hl, h⟩
theorem w_fdL (h0 : 0 < b) (h1 : b.natAbs.log2 < 9000) (h : Q (.int (a / b)) H) : kFd (.int a) (.int b) H Q := ⟨a, b, rfl, rfl, ⟨h0, h1⟩, h⟩
theorem w_powL (h0 : 0 ≤ b) (h1 : b ≤ 1000000) (h2 : a.natAbs < 2 ^ 64) (h : Q (.int (a ^ b.toNat)) H) : kPow (.int a) (.int b) H Q := ⟨a, b, rfl, rfl, ⟨h0, h1, h2⟩, h⟩
theorem w_lt_i (h : Q (.bl (decide (a < b))) H) : kLt (.int a) (.int b) H Q := .inl ⟨a, b, rfl, rfl, h⟩
theorem w_le_i (h : Q (.bl (decide (a ≤ b))) H) : kLe (.int a) (.int b) H Q := .inl ⟨a, b, rfl, rfl, h⟩
theorem w_gt_i (h : Q (.bl (decide (b < a))) H) : kGt (.int a) (.int b) H Q := .inl ⟨a, b, rfl, rfl, h⟩
theorem w_ge_i (h : Q (.bl (decide (b ≤ a))) H) : kGe (.int a) (.int b) H Q := .inl ⟨a, b, rfl, rfl, h⟩
theorem w_eq_i (h : Q (.bl (decide (a = b))) H) : kEq K (.int a) (.int b) H Q := .inl ⟨rfl, by simpa using h⟩
theorem w_ne_i (h : Q (.bl (!decide (a = b))) H) : kNe K (.int a) (.int b) H Q := .inl ⟨rfl, by simpa using h⟩
theorem w_eq_s (h : Q (.bl (decide (s = z))) H) : kEq K (.str s) (.str z) H Q := .inl ⟨rfl, by simpa using h⟩
theorem w_ne_s (h : Q (.bl (!decide (s = z))) H) : kNe K (.str s) (.str z) H Q := .inl ⟨rfl, by simpa using h⟩
theorem w_eq_b {b b' : Bool} (h : Q (.bl (decide (b = b'))) H) : kEq K (.bl b) (.bl b') H Q := .inl ⟨rfl, by simpa using h⟩
theorem w_ne_b {b b' : Bool} (h : Q (.bl (!decide (b = b'))) H) : kNe K (.bl b) (.bl b') H Q := .inl ⟨rfl, by simpa using h⟩
theorem w_eq_is (h : Q (.bl false) H) : kEq K (.int a) (.str s) H Q := .inl ⟨rfl, by simpa using h⟩
theorem w_ne_is (h : Q (.bl true) H) : kNe K (.int a) (.str s) H Q := .inl ⟨rfl, by simpa using h⟩
theorem w_eq_si (h : Q (.bl false) H) : kEq K (.str s) (.int a) H Q := .inl ⟨rfl, by simpa using h⟩
theorem w_ne_si (h : Q (.bl true) H) : kNe K (.str s) (.int a) H Q := .inl ⟨rfl, by simpa using h⟩
theorem w_eq_v (hs : scal x y = true) (h : Q (.bl (decide (x = y))) H) : kEq K x y H Q := .inl ⟨hs, h⟩
theorem w_ne_v (hs : scal x y = true) (h : Q (.bl (!decide (x = y))) H) : kNe K x y H Q := .inl ⟨hs, h⟩
theorem w_eq_d {d e : PyData} (hd : Dp K H x d) (he : Dp K H y e) (sd : SeqAt.shaped d = true) (se : SeqAt.shaped e = true) (h : Q (.bl (PyData.eqv d e)) H) : kEq K x y H Q := .inr ⟨d, e, hd, he, sd, se, h⟩
theorem w_ne_d {d e : PyData} (hd : Dp K H x d) (he : Dp K H y e) (sd : SeqAt.shaped d = true) (se : SeqAt.shaped e = true) (h : Q (.bl (!PyData.eqv d e)) H) : kNe K x y H Q := .inr ⟨d, e, hd, he, sd, se, h⟩
theorem w_isN (h : Q (.bl (decide (x = .non))) H) : kIs x .non H Q := .inl ⟨rfl, h⟩
theorem w_isB {b b' : Bool} (h : Q (.bl (decide (b = b'))) H) : kIs (.bl b) (.bl b') H Q := .inr ⟨b, b', rfl, rfl, h⟩
theorem w_isnotN (h : Q (.bl (!decide (x = .non))) H) : kIsNot x .non H Q := .inl ⟨rfl, h⟩
theorem w_isnotB {b b' : Bool} (h : Q (.bl (!decide (b = b'))) H) : kIsNot (.bl b) (.bl b') H Q := .inr ⟨b, b', rfl, rfl, h⟩
theorem w_rU {f : Int → V} (h : Q (f a) H) : rU f (.int a) H Q := ⟨a, rfl, h⟩
theorem w_ixL {p : Addr} {xs : List V} (hs : SqL K H p xs) (e : atI xs a = some v) (h : Q v H) : rIx K (.ref p) (.int a) H Q := .inl ⟨p, xs, a, v, rfl, rfl, hs, e, h⟩
theorem w_ixT {p : Addr} {xs : List V} (hs : SqT K H p xs) (e : atI xs a = some v) (h : Q v H) : rIx K (.ref p) (.int a) H Q := .inr (.inl ⟨p, xs, a, v, rfl, rfl, hs, e, h⟩)
theorem w_ixS {c : Nat} (hz : s.length ≤ sizeLine) (e : atI s.cps.toList a = some c) (h : Q (.str ⟨#[c]⟩) H) : rIx K (.str s) (.int a) H Q := .inr (.inr ⟨s, a, c, rfl, rfl, hz, e, h⟩)
theorem w_slS {lo hi : Option Int} (hz : s.length ≤ sizeLine) (h : Q (.str (cutS s lo hi)) H) : rSl K (.str s) lo hi H Q := .inr (.inr ⟨s, rfl, hz, h⟩)
theorem w_sl {r : V → Option Int → Option Int → Hp → VK → Prop} {tl th : TO} (h : te σ H fun x H1 => tl σ H1 fun l H2 => th σ H2 fun u H3 => r x l u H3 Q) : tSl r te tl th σ H Q := h
theorem w_partN {R : Option Int → Hp → Prop} (h : R none H) : tNoPart σ H R := h
theorem w_part {R : Option Int → Hp → Prop} (h : te σ H fun x H1 => ∃ i, x = .int i ∧ R (some i) H1) : tPart te σ H R := h
theorem w_partI {R : Option Int → Hp → Prop} (h : R (some a) H) : ∃ i, V.int a = .int i ∧ R (some i) H := ⟨a, rfl, h⟩
/-! built-ins -/
/-- the absolute value, as Python's abs tells it -/
theorem w_abs (h : Q (.int (ab a)) H) : kAbs [.int a] H Q := ⟨a, rfl, h⟩
theorem w_max2 (h : Q (.int (if b > a then b else a)) H) : kMax2 [.int a, .int b] H Q := ⟨a, b, rfl, h⟩
theorem w_min2 (h : Q (.int (if b < a then b else a)) H) : kMin2 [.int a, .int b] H Q := ⟨a, b, rfl, h⟩
theorem w_int_i (h : Q (.int a) H) : kInt [.int a] H Q := .inl (.inl ⟨a, rfl, h⟩)
theorem w_int_b {b : Bool} (h : Q (.int (if b then 1 else 0)) H) : kInt [.bl b] H Q := .inl (.inr ⟨b, rfl, h⟩)
theorem w_len_L {p : Addr} {xs : List V} (hs : SqL K H p xs) (h : Q (.int xs.length) H) : kLen K [.ref p] H Q := .inl ⟨p, xs, rfl, .inl hs, h⟩
theorem w_len_T {p : Addr} {xs : List V} (hs : SqT K H p xs) (h : Q (.int xs.length) H) : kLen K [.ref p] H Q := .inl ⟨p, xs, rfl, .inr hs, h⟩
theorem w_len_s (hz : s.length ≤ sizeLine) (h : Q (.int s.length) H) : kLen K [.str s] H Q := .inr ⟨s, rfl, hz, h⟩
theorem w_repr {d : PyData} (hd : Dp K H x d) (h1 : d.showable = true) (h2 : d.hasDict = false) (h3 : d.depth ≤ 64) (h4 : d.shown.length ≤ sizeLine) (h : Q (.str d.shown) H) : rReprD K [x] H Q := ⟨x, d, rfl, hd, h1, h2, h3, h4, h⟩
end
end Pw

/-! ## Part H: what the top has left, read off its run -/
namespace Pw
open PySem PySem.Spec PyProof.Rows L2 He

/-- the objects that the module's names reach -/
def asP (g : Addr → Option Obj) : Nat → List Addr
  | 0 => [mainGlobals, cStatics]
  | n + 1 => growD g (asP g n)
abbrev FnI : Type := Option (Str × Str × Arguments × FuncBody × Scope × Addr × List Str × Value × Value × Addr)
/-- a def that closes over names -/
def fnI (K : PySem.W.Frag) (p : Str × Option Str) : FnI := match K.lookup (fAd K p) with
  | some ⟨_, _, .func fd, _⟩ => some (fd.name, fd.qualname, fd.params, fd.body, fd.scope, fd.globals, fd.closure.map (·.1), fd.defaults, fd.kwdefaults, fd.builtins)
  | _ => none
/-- such a def as the text has it -/
structure InitD where
  at_ : Str × Option Str
  qual : Str
  params : Arguments
  body : List Stmt
  scope : Scope
def iniVal (qual : Str) (params : Arguments) (body : List Stmt) (scope : Scope) : FnI := some ("__init__", qual, params, .stmts body, scope, mainGlobals, ["__class__"], .none, .none, builtinsNs)
def InitD.val (d : InitD) : FnI := iniVal d.qual d.params d.body d.scope
abbrev AlP : Type := Bool × List FnW × List FnI
def obsP (fn : List DefD) (ini : List InitD) (ex : PySem.W.Frag → Bool) (K : PySem.W.Frag) : AlP := ((fn.all fun d => d.ok K) && ex K, fn.map (fun d => fnW K d.at_), ini.map fun d => fnI K d.at_)
def valP (fn : List DefD) (ini : List InitD) : AlP := (true, fn.map DefD.val, ini.map InitD.val)
def SaysP (fn : List DefD) (ini : List InitD) (ex : PySem.W.Frag → Bool) (K : PySem.W.Frag) : Prop := obsP fn ini ex K = valP fn ini
def obsPG (n : Nat) (fn : List DefD) (ini : List InitD) (ex : PySem.W.Frag → Bool) (g : Addr → Option Obj) : AlP := obsP fn ini ex (frG g (asP g n))
def hookP (n : Nat) (fn : List DefD) (ini : List InitD) (ex : PySem.W.Frag → Bool) : PySem.W.Hook where
  α := AlP
  obs := fun s => obsPG n fn ini ex s.heap.get?
  val := fun _ => valP fn ini
  says := fun _ h => ∃ K : PySem.W.Frag, K.In h ∧ SaysP fn ini ex K
  of := fun _ _ e => ⟨_, frG_in, e⟩
  keeps := fun _ _ _ ⟨K, hK, c⟩ k => ⟨K, PySem.W.Frag.In.keeps hK k, c⟩
theorem obsPG_eq {n : Nat} {fn : List DefD} {ini : List InitD} {ex : PySem.W.Frag → Bool} {g : Addr → Option Obj} {s : Shared} (h : ∀ a, g a = s.heap.get? a) : obsPG n fn ini ex g = (hookP n fn ini ex).obs s := by
  have e : g = s.heap.get? := funext h
  rw [e] <;> rfl
section
variable {fn : List DefD} {ini : List InitD} {ex : PySem.W.Frag → Bool} {K : PySem.W.Frag}
theorem SaysP.ex_ (c : SaysP fn ini ex K) : ex K = true := (ba (show ((fn.all fun d => d.ok K) && ex K) = true from congrArg (fun z : AlP => z.1) c)).2
theorem SaysP.def_ (c : SaysP fn ini ex K) (i : Nat) {d : DefD} (h : fn[i]? = some d) : ∃ fd, FunD K d.name d.qual d.params d.body d.scope (d.dvs K) (d.kws K) (fAd K d.at_) fd := by
  have c1 := (ba (show ((fn.all fun d => d.ok K) && ex K) = true from congrArg (fun z : AlP => z.1) c)).1
  have e : (fn.map fun d => fnW K d.at_)[i]? = (fn.map DefD.val)[i]? := congrArg (fun l : List FnW => l[i]?) (congrArg (fun z : AlP => z.2.1) c)
  rw [List.getElem?_map, List.getElem?_map, h] at e
  exact DefD.funD (Option.some.inj e) (List.all_eq_true.mp c1 d (List.mem_of_getElem? h))
theorem SaysP.ini_ (c : SaysP fn ini ex K) (i : Nat) {d : InitD} (h : ini[i]? = some d) : fnI K d.at_ = d.val := by
  have e : (ini.map fun d => fnI K d.at_)[i]? = (ini.map InitD.val)[i]? := congrArg (fun l : List FnI => l[i]?) (congrArg (fun z : AlP => z.2.2) c)
  rw [List.getElem?_map, List.getElem?_map, h] at e
  exact Option.some.inj e
end

/-! ### an exception class with its own __init__ -/
def supCls (K : PySem.W.Frag) (C : Addr) (newId initId : String) (bmB : List Value) : Bool := match K.lookup C with
  | some ⟨.type "type", _, .cls cd, sl⟩ => (match cd.mro, sl.toList with
    | .ref C' :: bm, [_, _, _, _, some (.builtin n), _] => C' == C && n == newId && cd.hasDict && !cd.hasDel && overB bmB bm && PySem.W.alongIn K "__init__" bm == some (some (.builtin initId))
    | _, _ => false)
  | _ => false
theorem supCls_ok {K : PySem.W.Frag} {C : Addr} {newId initId : String} {bmB : List Value} (q : supCls K C newId initId bmB = true) :
    ∃ nm q N bs bm sn sub ab col dd k0 k1 k2 k3 k5, K.lookup C = some (excClassObj nm q C N bs bm true sn sub ab col dd k0 k1 k2 k3 k5 newId) ∧ overB bmB bm = true ∧ PySem.W.alongIn K "__init__" bm = some (some (.builtin initId)) := by
  unfold supCls at q
  split at q
  · rename_i dd cd sl ho
    split at q
    · rename_i C' bm k0 k1 k2 k3 n k5 hm hs
      simp only [Bool.and_eq_true, beq_iff_eq, Bool.not_eq_true'] at q
      obtain ⟨⟨⟨⟨⟨rfl, rfl⟩, hdict⟩, hdel⟩, hov⟩, hal⟩ := q
      obtain ⟨nm, bs, mro, ns, qn, hd, sn, sub, ab, col, del⟩ := cd
      dsimp only at hm hdel hdict
      subst hm hdel hdict
      obtain ⟨l⟩ := sl
      simp only at hs
      subst hs
      exact ⟨nm, qn, ns, bs, bm, sn, sub, ab, col, dd, k0, k1, k2, k3, k5, ho, hov, hal⟩
    · cases q
  · cases q
def fnCell (K : PySem.W.Frag) (C fI : Addr) (file : Str) (qual : Str) : Bool := match K.lookup fI with
  | some ⟨_, _, .func fd, _⟩ => (match fd.closure, fd.code with
    | [(_, cc)], .ref cda => PySem.W.codeIn K (.ref cda) qual && (match K.lookup cda with
        | some ⟨_, _, .fields vs, _⟩ => (match (vs[2]? : Option Value) with
          | some (.str z _) => file == z
          | _ => false)
        | _ => false) && (match K.lookup cc with
        | some ⟨_, _, .cell (some (.ref c)), _⟩ => c == C
        | _ => false)
    | _, _ => false)
  | _ => false
def supB (K : PySem.W.Frag) (file x f qual : Str) (B newId initId : String) (bmB : List Value) : Bool :=
  let C := ga K x
  let fI := ma K C "__init__"
  supCls K C newId initId bmB && fnCell K C fI file qual &&
  decide (PySem.W.findIn K (.ref C) "__setattr__" = some (some (.builtin "object.__setattr__"))) && decide (PySem.W.findIn K (.ref C) f = some none) &&
  decide (PySem.W.findIn K (.ref C) "__init__" = some (some (.ref fI))) && decide (PySem.W.typeIn K (.ref fI) = some (.type "function")) && PySem.W.keepIn K (.ref C) &&
  decide (PySem.W.subIn K (.ref C) (.type "BaseException") = some true) && decide (PySem.W.typeIn K (.ref C) = some (.type "type")) && decide (PySem.W.subIn K (.ref C) (.type B) = some true) &&
  decide (PySem.W.mroIn K C (.ref C) = some true) && decide (PySem.W.nsIn K cStatics "thirdparty.any" = some none) && decide (PySem.W.nsIn K mainGlobals "super" = some none) &&
  decide (PySem.W.nsIn K mainGlobals x = some (some (.ref C))) && xfB K C
theorem fnCell_ok {K : PySem.W.Frag} {x : Str} {C : Addr} {file qual f msg : Str} {j : Nat} {p1 p2 q1 q2 q3 q4 q5 q6 r1 r2 r3 r4 : Pos} (hl : (q3.endLine == q5.line) = true)
    (e : fnI K (x, some "__init__") = iniVal qual (eA f p1 p2) (eB f msg j q1 q2 q3 q4 q5 q6 r1 r2 r3 r4) (eS f)) (c : fnCell K C (fAd K (x, some "__init__")) file qual = true) :
    ∃ (oc : Value) (od : Option Addr) (doc pm : Value) (an : Option Addr) (cda : Addr) (ct : Value) (osl : Array (Option Value)) (qual msg : Str) (j : Nat) (p1 p2 q1 q2 q3 q4 q5 q6 r1 r2 r3 r4 : Pos) (cc : Addr),
    K.lookup (fAd K (x, some "__init__")) = some ⟨oc, od, .func (PySem.W.ksFn "__init__" qual (eA f p1 p2) (eB f msg j q1 q2 q3 q4 q5 q6 r1 r2 r3 r4) (eS f) .none .none doc pm an (.ref cda) ct cc), osl⟩ ∧ PySem.W.codeIn K (.ref cda) qual = true ∧ (q3.endLine == q5.line) = true ∧
    (∃ ccl cdd vs ccs file' tf, K.lookup cda = some ⟨ccl, cdd, .fields vs, ccs⟩ ∧ vs[2]? = some (.str file' tf) ∧ (file == file') = true) ∧
    ∃ cl cld csl, K.lookup cc = some ⟨cl, cld, .cell (some (.ref C)), csl⟩ := by
  unfold fnI iniVal at e
  unfold fnCell at c
  cases q : K.lookup (fAd K (x, some "__init__")) with
  | none =>
    rw [q] at c
    cases c
  | some o =>
    obtain ⟨oc, od, dt, osl⟩ := o
    rw [q] at c e
    cases dt with
    | func fd =>
      obtain ⟨n1, n2, n3, n4, n5, n6, n7, n8, n9, n10, n11, n12, n13, n14, n15⟩ := fd
      simp only [Option.some.injEq, Prod.mk.injEq] at e
      obtain ⟨rfl, rfl, rfl, rfl, rfl, rfl, h7, rfl, rfl, rfl⟩ := e
      obtain ⟨cc, rfl⟩ : ∃ cc : Addr, n7 = [(("__class__" : Str), cc)] := by
        match n7, h7 with
        | [(y, cc)], h7 =>
          simp only [List.map_cons, List.map_nil, List.cons.injEq, and_true] at h7
          exact ⟨cc, by rw [h7]⟩
      cases n13 with
      | ref cda =>
        simp only [Bool.and_eq_true] at c
        obtain ⟨⟨c1, c2⟩, c3⟩ := c
        refine ⟨oc, od, n10, n11, n12, cda, n14, osl, n2, msg, j, p1, p2, q1, q2, q3, q4, q5, q6, r1, r2, r3, r4, cc, rfl, c1, hl, ?_, ?_⟩
        · split at c2
          · rename_i ccl cdd vs ccs hk
            split at c2
            · rename_i z tz hz
              exact ⟨_, _, _, _, _, _, hk, hz, c2⟩
            · cases c2
          · cases c2
        · split at c3
          · rename_i cl cld cv csl hk
            have e3 := beq_iff_eq.mp c3
            subst e3
            exact ⟨_, _, _, hk⟩
          · cases c3
      | _ => cases c
    | _ => cases c
theorem supC_of {K : PySem.W.Frag} {prog : Program} {x f qual msg : Str} {j : Nat} {p1 p2 q1 q2 q3 q4 q5 q6 r1 r2 r3 r4 : Pos} {B newId initId : String} {bmB : List Value}
    (e : fnI K (x, some "__init__") = iniVal qual (eA f p1 p2) (eB f msg j q1 q2 q3 q4 q5 q6 r1 r2 r3 r4) (eS f))
    (c : supB K prog.main.file x f qual B newId initId bmB = true) (hl : (q3.endLine == q5.line) = true) (top : (prog.main.scope.names.lookup ("super" : Str)).isSome = false)
    (kS : (eS f).names.lookup ("self" : Str) = some .local) (kF : (eS f).names.lookup f = some .local) (kC : (eS f).names.lookup ("__class__" : Str) = some .free) (kU : (eS f).names.lookup ("super" : Str) = some .globalImplicit)
    (bnd : ∀ (qual : Str) (body : List Stmt) (doc pm : Value) (an : Option Addr) (cdv ct : Value) (cc : Addr) (p1 p2 : Pos) (a b : Value), bindArgs (PySem.W.ksFn "__init__" qual (eA f p1 p2) body (eS f) .none .none doc pm an cdv ct cc) ⟨[a, b], []⟩ = pure [(("self" : Str), a), (f, b)])
    (nf : (f == ("self" : Str)) = false) (nd : (f == ("__debug__" : Str)) = false) :
    SupC K prog (ga K x) (ma K (ga K x) "__init__") f B newId initId bmB ∧ PySem.W.nsIn K mainGlobals x = some (some (.ref (ga K x))) ∧ XfC K (ga K x) := by
  unfold supB at c
  simp only [Bool.and_eq_true, decide_eq_true_eq] at c
  obtain ⟨⟨⟨⟨⟨⟨⟨⟨⟨⟨⟨⟨⟨⟨c1, c2⟩, c3⟩, c4⟩, c5⟩, c6⟩, c7⟩, c8⟩, c9⟩, c10⟩, c11⟩, c12⟩, c13⟩, c14⟩, c15⟩ := c
  exact ⟨⟨supCls_ok c1, c3, c4, c5, c6, c7, c8, c9, c10, c11, c12, c13, top, kS, kF, kC, kU, bnd, nf, nd, fnCell_ok hl e c2⟩, c14, xfB_ok c15⟩
end Pw

/-! ## Part F: a def of the text with all that its callers ask -/
namespace Pw
open PySem PySem.Spec PyProof.Rows L2

/-- the def x of the module keeps the promise sp -/
def Has (P : Program) (w : World) (K : PySem.W.Frag) (mg : Str → Option Value) (base : Heap) (k : Nat) (x : Str) (ps : List Str) (sp : Sp) : Prop :=
  ∃ fd, FnG P w K mg base k (He.ga K x) fd ps sp ∧ Binds K fd ps [] ∧ PySem.W.keepIn K (.ref (He.ga K x)) = true ∧ mg x = some (.ref (He.ga K x))
/-- the def as it stands -/
abbrev Defd (K : PySem.W.Frag) (x : Str) (st : Stmt) : Prop := ∃ fd, FunD K x x (defArgs st) (defBody st) (defScope st) [] [] (He.ga K x) fd
section
variable {P : Program} {w : World} {K : PySem.W.Frag} {mg : Str → Option Value} {base : Heap}
theorem Has.mk {x : Str} {st : Stmt} {N ps : List Str} {k : Nat} {sp : Sp} (d : Defd K x st) (g : mg x = some (.ref (He.ga K x))) (S : FnScope N ps (defScope st))
    (hb : ∀ (kV doc pm : Value) (an : Option Addr) (cdv ct : Value) (us : List Value), us.length = ps.length → bindArgs (PySem.W.fnOf x x (defArgs st) (defBody st) (defScope st) .none kV doc pm an cdv ct) ⟨us, []⟩ = pure (ps.zip us))
    (len : ∀ vs H Q E, sp vs H Q E → vs.length = ps.length)
    (hbody : ∀ (f : Addr) (cdv : Value) (A : Around) (outer : List Env) (s : Shared) (H : Hp) (vs : List V) (Q : VK) (E : XK), Room k (A.deeper (envOfC x (defScope st) s.heap.objs.size f cdv)) → (A.deeper (envOfC x (defScope st) s.heap.objs.size f cdv)).guards = some [] → sp vs H Q E →
      ∃ t, PSs (cxOf (L2.CX P w) P w K mg base N x (defScope st) f cdv A outer s H E) (defBody st) t ∧ t { nx := fun _ H' => Q .non H', rt := Q } (start N vs) H) :
    Has P w K mg base (k + 1) x ps sp := by
  obtain ⟨fd, F⟩ := d
  exact ⟨fd, fnG_of F S len fun cdv A outer s H vs Q E => hbody (He.ga K x) cdv A outer s H vs Q E, F.bindsN hb, F.kp, g⟩
theorem Has.imp {x : Str} {ps : List Str} {k : Nat} {sp sp' : Sp} (h : Has P w K mg base k x ps sp) (i : ∀ vs H Q E, sp' vs H Q E → sp vs H Q E) : Has P w K mg base k x ps sp' := by
  obtain ⟨fd, F, r⟩ := h
  exact ⟨fd, ⟨fun vs H Q E q => F.len vs H Q E (i _ _ _ _ q), fun A outer s H args us vs Q E hr hg e b v q => F.run A outer s H args us vs Q E hr hg e b v (i _ _ _ _ q)⟩, r⟩
end
theorem cx_K {CX : CXT} {P : Program} {w : World} {K : PySem.W.Frag} {mg : Str → Option Value} {base : Heap} {N : List Str} {q : Str} {sc : Scope} {f : Addr} {cd : Value} {A : Around} {outer : List Env} {s : Shared} {H : Hp} {E : XK} :
    (cxOf CX P w K mg base N q sc f cd A outer s H E).K = K := rfl
section
variable {X : Cx} {k : Nat} {ps : List Str} {sp : Sp} {x : Str} {p pos : Pos} {e : Expr} {es : List Expr} {t : TA} {W : WX}
/-- f(e, ..) -/
theorem pe_callH (h : Has X.prog X.w X.K X.mg X.base k x ps sp) (hr : Room k X.A) (hgd : X.A.guards = some []) (tk : Takes X W) (ha : PA X (e :: es) t) (hg : Gl X x := by rfl) (hdb : (x == ("__debug__" : Str)) = false := by decide)
    (he : starEach (e :: es) X.env = (false, eval e X.env) :: starEach es X.env := by rfl) (hpl : (backTo pos (starEach es X.env)).any (·.1) = false := by rfl) :
    PE X (.Call (.Name x p) (e :: es) [] pos) (tCallS sp (WE W) t) := by
  obtain ⟨fd, F, b, kp, g⟩ := h
  exact pe_callG F hr hgd hg g kp b (fun σ => passAt tk σ) ha hdb he hpl
theorem pe_gint {i : Int} (h : ∃ t, X.mg x = some (.int i t)) (hg : Gl X x := by rfl) (hd : (x == ("__debug__" : Str)) = false := by decide) : PE X (.Name x pos) (tC (.int i)) := by
  obtain ⟨t, h⟩ := h
  exact pe_glob hg h ⟨t, rfl⟩ hd
theorem pe_gstr {z : Str} (h : ∃ t, X.mg x = some (.str z t)) (hg : Gl X x := by rfl) (hd : (x == ("__debug__" : Str)) = false := by decide) : PE X (.Name x pos) (tC (.str z)) := by
  obtain ⟨t, h⟩ := h
  exact pe_glob hg h ⟨t, rfl⟩ hd
/-- isinstance(e, T), T a built-in type -/
theorem pe_isi (K : PySem.W.Frag) {a b : Expr} {ta tb : TE} (hm : X.mg "isinstance" = none) (ha : PE X a ta) (hb : PE X b tb) (hg : Gl X "isinstance" := by rfl)
    (he : starEach [a, b] X.env = (false, eval a X.env) :: starEach [b] X.env := by rfl) (hpl : (backTo pos (starEach [b] X.env)).any (·.1) = false := by rfl) (hs : starEach [b] X.env = (false, eval b X.env) :: starEach [] X.env := by rfl) (hK : X.K = K := by rfl) :
    PE X (.Call (.Name "isinstance" p) [a, b] [] pos) (tCB (rIsi K) (tCons ta (tCons tb tNil))) := by
  subst hK
  exact pe_callB call_isi hg hm (by decide +kernel) (pa_cons ha (pa_cons hb pa_nil hs) he) (by decide) (by decide) he hpl
theorem pe_ty {T : String} (hm : X.mg x = none) (hv : bootBuiltins x = some (.type T)) (hg : Gl X x := by rfl) (hn : x ≠ "__name__" := by decide) (hd : (x == ("__debug__" : Str)) = false := by decide) : PE X (.Name x pos) (tC (.ty T)) :=
  pe_bltn hg hm hv rfl hn hd
end
/-! ### answers: loops -/
section
variable {D : Ends} {σ : L2.St} {H : Hp} {g : TG} {tb : TS} {tas : TA} {c : TT} {K : PySem.W.Frag} {te : TE}
theorem w_forR1 {j : Int} (Pv : Nat → L2.St → Hp → Prop) (ht : tas σ H fun vs H1 => vs = [.int j] ∧ -(2 ^ 62) ≤ j ∧ j < 2 ^ 62 ∧ Pv 0 σ H1)
    (hs : ∀ i σ H, i < j.toNat → Pv i σ H → g (.int i) σ H fun σ2 H2 => tb { D with nx := Pv (i + 1), ct := Pv (i + 1), bk := D.nx } σ2 H2) (hd : ∀ σ H, Pv j.toNat σ H → D.nx σ H)
    (mono : ∀ Q Q' : List V → Hp → Prop, (∀ vs H1, Q vs H1 → Q' vs H1) → tas σ H Q → tas σ H Q') : tFor (iRng1 tas) g tb D σ H := by
  refine mono _ _ ?_ ht
  rintro vs H1 ⟨rfl, h1, h2, h0⟩
  exact ⟨j, rfl, h1, h2, for_range (lo := 0) Pv h0 (fun i σ H hi p => by simpa using hs i σ H hi p) hd⟩
theorem w_while (h : ∃ W : Nat → L2.St → Hp → Prop, (∃ m, W m σ H) ∧ ∀ m σ H, W m σ H →
  c σ H fun b H1 => if b = true then ∃ N : L2.St → Hp → Prop, (∀ σ' H', N σ' H' → ∃ m', m' < m ∧ W m' σ' H') ∧ tb { D with nx := N, ct := N, bk := D.nx } σ H1 else D.nx σ H1) : tWhile c tb D σ H := h
end
end Pw

/-! ## Part G: values of any plain kind -/
namespace Pw
open PySem PySem.Spec PyProof.Rows L2
/-- a plain object: a tuple, a list that is no die, a dict -/
def plainO : HO → Bool
  | .tup _ => true
  | .lst xs => !dieO (.lst xs)
  | .dK _ => true
  | _ => false
/-- a value of a plain built-in kind -/
def Kd (H : Hp) : V → Prop
  | .non => True
  | .bl _ => True
  | .int _ => True
  | .str _ => True
  | .ref a => ∃ o, H a = some o ∧ plainO o = true
  | _ => False
theorem plain_noDie {o : HO} (h : plainO o = true) : dieO o = false := by
  cases o <;> first | rfl | (simpa [plainO] using h) | (cases h)
theorem Kd.ext {H H' : Hp} {x : V} (e : ExtR H H') (h : Kd H x) : Kd H' x := by
  cases x <;> first | trivial | exact h | exact h.elim | skip
  obtain ⟨o, h1, h2⟩ := h
  exact ⟨o, e _ _ (plain_noDie h2) h1, h2⟩
def isIntV : V → Bool
  | .int _ => true
  | .bl _ => true
  | _ => false
def isBoolV : V → Bool
  | .bl _ => true
  | _ => false
def isStrV : V → Bool
  | .str _ => true
  | _ => false
/-- the built-in type of a plain value -/
theorem Kd.ty {K : PySem.W.Frag} {H : Hp} {x : V} (h : Kd H x) : ∃ n, TyX K H x (.type n) ∧ n ∈ (["NoneType", "bool", "int", "str", "tuple", "list", "dict"] : List String) ∧ isIntV x = (n == "int" || n == "bool") ∧ isBoolV x = (n == "bool") ∧ isStrV x = (n == "str") := by
  cases x with
  | non => exact ⟨_, .base .non, by decide, by simp [isIntV], by simp [isBoolV], by simp [isStrV]⟩
  | bl b => exact ⟨_, .base (.bl b), by decide, by simp [isIntV], by simp [isBoolV], by simp [isStrV]⟩
  | int i => exact ⟨_, .base (.int i), by decide, by simp [isIntV], by simp [isBoolV], by simp [isStrV]⟩
  | str s => exact ⟨_, .base (.str s), by decide, by simp [isIntV], by simp [isBoolV], by simp [isStrV]⟩
  | ref a =>
    obtain ⟨o, h1, h2⟩ := h
    cases o with
    | tup xs => exact ⟨_, .base (.tup h1), by decide, by simp [isIntV], by simp [isBoolV], by simp [isStrV]⟩
    | lst xs => exact ⟨_, .base (.lst h1), by decide, by simp [isIntV], by simp [isBoolV], by simp [isStrV]⟩
    | dK kvs => exact ⟨_, .base (.dK h1), by decide, by simp [isIntV], by simp [isBoolV], by simp [isStrV]⟩
    | _ => cases h2
  | _ => exact h.elim
section
variable {K : PySem.W.Frag} {H : Hp} {x : V} {Q : VK}
theorem w_isi_int (h : Kd H x) (q : Q (.bl (isIntV x)) H) : rIsi K [x, .ty "int"] H Q := by
  obtain ⟨n, t, m, e, _⟩ := h.ty (K := K)
  refine ⟨x, .ty "int", _, _, _, rfl, .ty "int", t, kit_ty (r := isIntV x) ?_, q⟩
  rw [e]
  simp only [List.mem_cons, List.not_mem_nil, or_false] at m
  rcases m with rfl | rfl | rfl | rfl | rfl | rfl | rfl <;> decide +kernel
theorem w_isi_bool (h : Kd H x) (q : Q (.bl (isBoolV x)) H) : rIsi K [x, .ty "bool"] H Q := by
  obtain ⟨n, t, m, _, e, _⟩ := h.ty (K := K)
  refine ⟨x, .ty "bool", _, _, _, rfl, .ty "bool", t, kit_ty (r := isBoolV x) ?_, q⟩
  rw [e]
  simp only [List.mem_cons, List.not_mem_nil, or_false] at m
  rcases m with rfl | rfl | rfl | rfl | rfl | rfl | rfl <;> decide +kernel
theorem w_isi_str (h : Kd H x) (q : Q (.bl (isStrV x)) H) : rIsi K [x, .ty "str"] H Q := by
  obtain ⟨n, t, m, _, _, e⟩ := h.ty (K := K)
  refine ⟨x, .ty "str", _, _, _, rfl, .ty "str", t, kit_ty (r := isStrV x) ?_, q⟩
  rw [e]
  simp only [List.mem_cons, List.not_mem_nil, or_false] at m
  rcases m with rfl | rfl | rfl | rfl | rfl | rfl | rfl <;> decide +kernel
end
/-! ### data stands while the heap grows -/
def threeI : List PyData → Bool
  | [.int _, .int _, .int _] => true
  | _ => false
mutual
def noDie : PyData → Bool
  | .list ds => !threeI ds && noDies ds
  | .tuple ds => noDies ds
  | _ => true
def noDies : List PyData → Bool
  | [] => true
  | d :: ds => noDie d && noDies ds
end
theorem noDie_lst {K : PySem.W.Frag} {H : Hp} {xs : List V} {ds : List PyData} (h : DpAll K H xs ds) (n : (!threeI ds) = true) : dieO (.lst xs) = false := by
  cases e : dieO (.lst xs) with
  | false => rfl
  | true =>
    exfalso
    obtain ⟨a, b, c, rfl⟩ : ∃ a b c, xs = [.int a, .int b, .int c] := by
      unfold dieO at e
      split at e
      · rename_i h
        cases h
        exact ⟨_, _, _, rfl⟩
      · cases e
    cases h with | cons h1 h => cases h with | cons h2 h => cases h with | cons h3 h => cases h with | nil =>
      cases h1; cases h2; cases h3
      cases n
mutual
theorem dp_ext {K : PySem.W.Frag} {H H' : Hp} (x : Ext H H') : ∀ (d : PyData) (v : V), Dp K H v d → Dp K H' v d
  | .none, _, h => by cases h; exact .non
  | .bool b, _, h => by cases h; exact .bl b
  | .int i, _, h => by cases h; exact .int i
  | .str s, _, h => by cases h; exact .str s
  | .list ds, _, h => by
    cases h with
    | lst h1 h2 =>
      refine .lst ?_ (dps_ext x ds _ h2)
      rcases h1 with (h1 | ⟨o, h1⟩) | h1
      · exact .inl (.inl (x _ _ h1))
      · exact .inl (.inr ⟨o, x _ _ h1⟩)
      · exact .inr h1
  | .tuple ds, _, h => by
    cases h with
    | tup h1 h2 => exact .tup (sqT_ext x.r h1) (dps_ext x ds _ h2)
  | .dict _, _, h => by cases h
theorem dps_ext {K : PySem.W.Frag} {H H' : Hp} (x : Ext H H') : ∀ (ds : List PyData) (vs : List V), DpAll K H vs ds → DpAll K H' vs ds
  | [], _, h => by cases h; exact .nil
  | d :: ds, _, h => by
    cases h with
    | cons h1 h2 => exact .cons (dp_ext x d _ h1) (dps_ext x ds _ h2)
end
mutual
theorem dp_extR {K : PySem.W.Frag} {H H' : Hp} (x : ExtR H H') : ∀ (d : PyData) (v : V), noDie d = true → Dp K H v d → Dp K H' v d
  | .none, _, _, h => by cases h; exact .non
  | .bool b, _, _, h => by cases h; exact .bl b
  | .int i, _, _, h => by cases h; exact .int i
  | .str s, _, _, h => by cases h; exact .str s
  | .list ds, _, n, h => by
    cases h with
    | lst h1 h2 =>
      rw [noDie, Bool.and_eq_true] at n
      exact .lst (sqL_ext x h1 (noDie_lst h2 n.1)) (dps_extR x ds _ n.2 h2)
  | .tuple ds, _, n, h => by
    cases h with
    | tup h1 h2 =>
      rw [noDie] at n
      exact .tup (sqT_ext x h1) (dps_extR x ds _ n h2)
  | .dict _, _, _, h => by cases h
theorem dps_extR {K : PySem.W.Frag} {H H' : Hp} (x : ExtR H H') : ∀ (ds : List PyData) (vs : List V), noDies ds = true → DpAll K H vs ds → DpAll K H' vs ds
  | [], _, _, h => by cases h; exact .nil
  | d :: ds, _, n, h => by
    cases h with
    | cons h1 h2 =>
      rw [noDies, Bool.and_eq_true] at n
      exact .cons (dp_extR x d _ n.1 h1) (dps_extR x ds _ n.2 h2)
end
/-- e.f of a caught error e -/
theorem w_xf {σ : L2.St} {H : Hp} {Q : VK} {i : Nat} {a C dd : Addr} {f : Str} {fs : List (Str × V)} {v : V} (e : σ[i]? = some (some (.ref a))) (hd : H dd = some (.xd fs)) (hl : fs.lookup f = some v) (h : Q v H) :
    tXf a (.ref C) (some dd) C f (tVar i) σ H Q := ⟨.ref a, e, rfl, rfl, dd, fs, v, rfl, hd, hl, h⟩
theorem w_dnew {σ : L2.St} {H : Hp} {Q : VK} (h : ∀ p H', H p = none → Ext H H' → H' p = some (.dK []) → Q (.ref p) H') : tDNewK σ H Q := fun p hp => h p _ hp (ext_upd hp) upd_same
theorem w_bm {σ : L2.St} {H : Hp} {Q : VK} {K : PySem.W.Frag} {T : String} {r : V → List V → Hp → VK → Prop} {to : TE} {t : TA} (h : to σ H fun x H1 => tyV K T x H1 ∧ t σ H1 fun xs H2 => r x xs H2 Q) : tBM K T r to t σ H Q := h
/-- xs.append(y) -/
theorem w_append {H : Hp} {Q : VK} {l : Addr} {xs : List V} {y : V} (hl : H l = some (.lst xs)) (hz : xs.length < sizeLine) (h : Q .non (upd H l (.lst (xs ++ [y])))) : rAppend (.ref l) [y] H Q := ⟨l, xs, y, rfl, rfl, hl, hz, h⟩
theorem tyL {K : PySem.W.Frag} {H : Hp} {l : Addr} {xs : List V} (h : SqL K H l xs) : tyV K "list" (.ref l) H := .inl ⟨rfl, xs, h⟩
theorem w_par {D : Ends} {σ : L2.St} {H : Hp} {i j : Nat} {ta : TA} (h : ta σ H fun vs H1 => ∃ v w, vs = [v, w] ∧ D.nx ((σ.set i (some v)).set j (some w)) H1) : tPar i j ta D σ H := h
/-! ### ints as data -/
theorem ab_natAbs (i : Int) : (i.natAbs : Int) = ab i := by unfold ab; split <;> omega
theorem int_small {i : Int} (h : ab i < 10 ^ 60) : i.natAbs < 10 ^ 60 := by have := ab_natAbs i; omega
theorem int_show {i : Int} (h : ab i < 10 ^ 60) : (PyData.int i).showable = true ∧ (PyData.int i).hasDict = false ∧ (PyData.int i).depth ≤ 64 ∧ (PyData.int i).shown.length ≤ 1921 := by
  have h1 : i.natAbs.log2 < 1920 := Nat.lt_of_le_of_lt (Nat.le_of_lt (PySem.Flt.log2_lt_of (k := 200) (by decide) (Nat.lt_trans (int_small h) (by decide)))) (by decide)
  refine ⟨?_, rfl, by simp [PyData.depth], ?_⟩
  · simp only [PyData.showable, decide_eq_true_eq]
    exact h1
  · simp only [PyData.shown]
    exact int_text_len_1921 h1
/-! ### a local list that grows -/
theorem w_appendX {H : Hp} {Q : VK} {l : Addr} {xs : List V} {y : V} (hl : H l = some (.lst xs)) (hz : xs.length < sizeLine) (h : ∀ H', ExtD l H H' → H' l = some (.lst (xs ++ [y])) → Q .non H') : rAppend (.ref l) [y] H Q :=
  w_append hl hz (h _ extD_upd upd_same)
theorem ext_local {H0 H1 H2 : Hp} {l : Addr} (n : H0 l = none) (x : Ext H0 H1) (y : ExtD l H1 H2) : Ext H0 H2 := fun a o e => y a o (ne_of_none e n) (x a o e)
theorem Die.extD {H H' : Hp} {d l : Addr} (h : Die H d) (x : ExtD l H H') (n : d ≠ l) : Die H' d := by
  obtain ⟨a, b, c, h1, h2⟩ := h
  exact ⟨a, b, c, h1, x _ _ n h2⟩
theorem Kd.extD {H H' : Hp} {l : Addr} {x : V} (e : ExtD l H H') (h : Kd H x) (n : x ≠ .ref l) : Kd H' x := by
  cases x <;> first | trivial | exact h | exact h.elim | skip
  obtain ⟨o, h1, h2⟩ := h
  exact ⟨o, e _ _ (fun z => n (by rw [z])) h1, h2⟩
theorem Kd.fresh {H : Hp} {l : Addr} {x : V} (h : Kd H x) (n : H l = none) : x ≠ .ref l := by
  rintro rfl
  obtain ⟨o, h1, _⟩ := h
  rw [n] at h1
  cases h1
def scalD : PyData → Bool
  | .none | .bool _ | .int _ | .str _ => true
  | _ => false
def flatD : PyData → Bool
  | .list ds => ds.all scalD
  | .tuple ds => ds.all scalD
  | .dict _ => false
  | _ => true
theorem dp_scal {K : PySem.W.Frag} {H H' : Hp} {d : PyData} {v : V} (s : scalD d = true) (h : Dp K H v d) : Dp K H' v d := by
  cases h <;> first | exact .non | exact .bl _ | exact .int _ | exact .str _ | cases s
theorem dps_scal {K : PySem.W.Frag} {H H' : Hp} : ∀ {ds : List PyData} {vs : List V}, ds.all scalD = true → DpAll K H vs ds → DpAll K H' vs ds
  | [], _, _, h => by cases h; exact .nil
  | d :: ds, _, s, h => by
    cases h with
    | cons h1 h2 =>
      rw [List.all_cons, Bool.and_eq_true] at s
      exact .cons (dp_scal s.1 h1) (dps_scal s.2 h2)
theorem dp_flat {K : PySem.W.Frag} {H H' : Hp} {l : Addr} {d : PyData} {v : V} (e : ExtD l H H') (f : flatD d = true) (h : Dp K H v d) (n : v ≠ .ref l) : Dp K H' v d := by
  cases h with
  | non => exact .non
  | bl b => exact .bl b
  | int i => exact .int i
  | str s => exact .str s
  | lst h1 h2 => exact .lst (sqL_D e h1 (fun z => n (by rw [z]))) (dps_scal f h2)
  | tup h1 h2 =>
    refine .tup ?_ (dps_scal f h2)
    rcases h1 with (h1 | ⟨o, h1⟩) | h1
    · exact .inl (.inl (e _ _ (fun z => n (by rw [z])) h1))
    · exact .inl (.inr ⟨o, e _ _ (fun z => n (by rw [z])) h1⟩)
    · exact .inr h1
/-! ### loops -/
def forR (g : TG) (tb : TS) (D : Ends) (σ : L2.St) (J : It) (H1 : Hp) : Prop := ∃ W : Nat → Nat → L2.St → Hp → Prop, (∃ m, W 0 m σ H1) ∧ ∀ i m σ H, W i m σ H →
  (J.stop i H ∧ D.nx σ H) ∨ (J.go i H ∧ ∃ N : L2.St → Hp → Prop, (∀ σ' H', N σ' H' → ∃ m', m' < m ∧ W (i + 1) m' σ' H') ∧ ∀ x H', J.yld i H x H' → g x σ H' fun σ2 H2 => tb { D with nx := N, ct := N, bk := D.nx } σ2 H2)
def rng1R (R : It → Hp → Prop) (vs : List V) (H : Hp) : Prop := ∃ j : Int, vs = [.int j] ∧ -(2 ^ 62) ≤ j ∧ j < 2 ^ 62 ∧ R (Itr 0 j.toNat) H
def rng2R (R : It → Hp → Prop) (vs : List V) (H : Hp) : Prop := ∃ i j : Int, vs = [.int i, .int j] ∧ (-(2 ^ 62) ≤ i ∧ i < 2 ^ 62 ∧ -(2 ^ 62) ≤ j ∧ j < 2 ^ 62) ∧ R (Itr i (j - i).toNat) H
section
variable {D : Ends} {σ : L2.St} {H : Hp} {g : TG} {tb : TS} {ta : TA} {wi : TI} {R : It → Hp → Prop} {K : PySem.W.Frag} {te : TE}
theorem w_for (h : wi σ H (forR g tb D σ)) : tFor wi g tb D σ H := h
theorem w_rng1 (h : ta σ H fun vs H1 => rng1R R vs H1) : iRng1 ta σ H R := h
theorem w_rng2 (h : ta σ H fun vs H1 => rng2R R vs H1) : iRng2 ta σ H R := h
theorem w_rng1v {j : Int} (h1 : -(2 ^ 62) ≤ j) (h2 : j < 2 ^ 62) (h : R (Itr 0 j.toNat) H) : rng1R R [.int j] H := ⟨j, rfl, h1, h2, h⟩
theorem w_rng2v {i j : Int} (h1 : -(2 ^ 62) ≤ i ∧ i < 2 ^ 62 ∧ -(2 ^ 62) ≤ j ∧ j < 2 ^ 62) (h : R (Itr i (j - i).toNat) H) : rng2R R [.int i, .int j] H := ⟨i, j, rfl, h1, h⟩
theorem w_forRng {n : Nat} (Pv : Nat → L2.St → Hp → Prop) (h0 : Pv 0 σ H) (hs : ∀ i σ H, i < n → Pv i σ H → g (.int i) σ H fun σ2 H2 => tb { D with nx := Pv (i + 1), ct := Pv (i + 1), bk := D.nx } σ2 H2)
    (hd : ∀ σ H, Pv n σ H → D.nx σ H) : forR g tb D σ (Itr 0 n) H := for_range (lo := 0) Pv h0 (fun i σ H hi p => by simpa using hs i σ H hi p) hd
theorem w_forRng2 {lo : Int} {n : Nat} (Pv : Nat → L2.St → Hp → Prop) (h0 : Pv 0 σ H) (hs : ∀ i σ H, i < n → Pv i σ H → g (.int (lo + i)) σ H fun σ2 H2 => tb { D with nx := Pv (i + 1), ct := Pv (i + 1), bk := D.nx } σ2 H2)
    (hd : ∀ σ H, Pv n σ H → D.nx σ H) : forR g tb D σ (Itr lo n) H := for_range Pv h0 hs hd
theorem w_iList (h : te σ H fun x H1 => ∃ a, x = .ref a ∧ (∃ xs, SqL K H1 a xs) ∧ R (Itl K a) H1) : iList K te σ H R := h
theorem w_iTup (h : te σ H fun x H1 => ∃ a, x = .ref a ∧ (∃ xs, SqT K H1 a xs) ∧ R (Itt K a) H1) : iTup K te σ H R := h
theorem w_forList {a : Addr} {xs : List V} (Pv : Nat → L2.St → Hp → Prop) (h0 : Pv 0 σ H) (hl : ∀ i σ H, i ≤ xs.length → Pv i σ H → SqL K H a xs)
    (hs : ∀ i x σ H, xs[i]? = some x → Pv i σ H → g x σ H fun σ2 H2 => tb { D with nx := Pv (i + 1), ct := Pv (i + 1), bk := D.nx } σ2 H2) (hd : ∀ σ H, Pv xs.length σ H → D.nx σ H) : forR g tb D σ (Itl K a) H :=
  for_list Pv h0 hl hs hd
theorem w_forTup {a : Addr} {xs : List V} (Pv : Nat → L2.St → Hp → Prop) (h0 : Pv 0 σ H) (hl : ∀ i σ H, i ≤ xs.length → Pv i σ H → SqT K H a xs)
    (hs : ∀ i x σ H, xs[i]? = some x → Pv i σ H → g x σ H fun σ2 H2 => tb { D with nx := Pv (i + 1), ct := Pv (i + 1), bk := D.nx } σ2 H2) (hd : ∀ σ H, Pv xs.length σ H → D.nx σ H) : forR g tb D σ (Itt K a) H :=
  for_tup Pv h0 hl hs hd
end
theorem sqL_fresh {K : PySem.W.Frag} {H H1 H2 : Hp} {s d : Addr} {xs : List V} (h : SqL K H s xs) (n : H d = none) (x : Ext H H1) (y : ExtD d H1 H2) : SqL K H2 s xs := by
  rcases h with (h | ⟨o, h⟩) | h
  · exact .inl (.inl (y _ _ (ne_of_none h n) (x _ _ h)))
  · exact .inl (.inr ⟨o, y _ _ (ne_of_none h n) (x _ _ h)⟩)
  · exact .inr h
end Pw

/-! ## Part I: comprehensions, walks, membership -/
namespace Pw
open PySem PySem.Spec PyProof.Rows L2

/-! ### comprehensions -/
def lcR (g : TG) (tt : TT) (te : TE) (vs : List Nat) (σ : L2.St) (Q : VK) (J : It) (H1 : Hp) : Prop := ∀ D, H1 D = none → ∃ W : Nat → Nat → Hp → Prop, (∃ m, W 0 m (upd H1 D (.lst []))) ∧ ∀ i m H, W i m H →
  (J.stop i H ∧ Q (.ref D) H) ∨ (J.go i H ∧ ∃ Nx : Hp → Prop, (∀ H', Nx H' → ∃ m', m' < m ∧ W (i + 1) m' H') ∧ ∀ x H', J.yld i H x H' → g x (wipe σ vs) H' fun σ2 H2 => wipe σ2 vs = wipe σ vs ∧ tt σ2 H2 fun b H3 =>
    if b = true then te σ2 H3 fun y H4 => ∃ acc, H4 D = some (.lst acc) ∧ acc.length < sizeLine ∧ Nx (upd H4 D (.lst (acc ++ [y]))) else Nx H3)
section
variable {σ : L2.St} {H H1 : Hp} {g : TG} {tt : TT} {te : TE} {vs : List Nat} {wi : TI} {Q : VK} {J : It} {n : Nat} {G : Hp → Prop} {Y : Nat → Hp → V → Hp → Prop}
theorem w_lc (h : wi σ H (lcR g tt te vs σ Q)) : tLc wi g tt te vs σ H Q := h
theorem w_yes {R : Bool → Hp → Prop} (h : R true H) : tYes σ H R := h
theorem range_filter_more (p : Nat → Bool) (f : Nat → V) (i : Nat) : ((List.range (i + 1)).filter p).map f = ((List.range i).filter p).map f ++ (if p i = true then [f i] else []) := by
  rw [List.range_succ, List.filter_append, List.map_append]
  cases h : p i <;> simp [List.filter_cons, h]
theorem range_filter_len (p : Nat → Bool) (f : Nat → V) (i : Nat) : (((List.range i).filter p).map f).length ≤ i := by
  rw [List.length_map]
  exact Nat.le_trans (List.length_filter_le _ _) (by simp)
/-- a comprehension that changes nothing else -/
theorem w_lcF (w : Walk J n G Y) (p : Nat → Bool) (f : Nat → V) (hz : n ≤ 1000000) (hG : ∀ H, Ext H1 H → G H)
    (hs : ∀ i H x H', i < n → Ext H1 H → Y i H x H' → ∀ (C : VK) (B : Hp → Prop), (∀ H4, Ext H H4 → p i = true → C (f i) H4) → (∀ H4, Ext H H4 → p i = false → B H4) →
      g x (wipe σ vs) H' fun σ2 H2 => wipe σ2 vs = wipe σ vs ∧ tt σ2 H2 fun b H3 => if b = true then te σ2 H3 C else B H3)
    (hq : ∀ D H', H1 D = none → Ext H1 H' → H' D = some (.lst (((List.range n).filter p).map f)) → Q (.ref D) H') : lcR g tt te vs σ Q J H1 := by
  intro D hD
  have nz : n < sizeLine := by rw [sizeLine_eq]; omega
  refine lc_it w (fun i H => Ext H1 H ∧ H D = some (.lst (((List.range i).filter p).map f))) ⟨ext_upd hD, by rw [upd_same]; rfl⟩ (fun i H _ h => hG H h.1) ?_ (fun H h => hq D H hD h.1 h.2)
  rintro i x H H' hi ⟨he, hd⟩ y
  refine hs i H x H' hi he y _ _ (fun H4 e4 pi => ?_) (fun H4 e4 pi => ?_)
  · refine ⟨_, e4 _ _ hd, Nat.lt_of_le_of_lt (range_filter_len p f i) (by omega), ext_local hD (he.trans e4) extD_upd, ?_⟩
    rw [upd_same, range_filter_more, if_pos pi]
  · refine ⟨he.trans e4, ?_⟩
    rw [range_filter_more, if_neg (by rw [pi]; decide), List.append_nil]
    exact e4 _ _ hd
/-- without a test -/
theorem w_lcM (w : Walk J n G Y) (f : Nat → V) (hz : n ≤ 1000000) (hG : ∀ H, Ext H1 H → G H)
    (hs : ∀ i H x H', i < n → Ext H1 H → Y i H x H' → ∀ (C : VK), (∀ H4, Ext H H4 → C (f i) H4) → g x (wipe σ vs) H' fun σ2 H2 => wipe σ2 vs = wipe σ vs ∧ te σ2 H2 C)
    (hq : ∀ D H', H1 D = none → Ext H1 H' → H' D = some (.lst ((List.range n).map f)) → Q (.ref D) H') : lcR g tYes te vs σ Q J H1 := by
  intro D hD
  have nz : n < sizeLine := by rw [sizeLine_eq]; omega
  refine lc_it w (fun i H => Ext H1 H ∧ H D = some (.lst ((List.range i).map f))) ⟨ext_upd hD, by rw [upd_same]; rfl⟩ (fun i H _ h => hG H h.1) ?_ (fun H h => hq D H hD h.1 h.2)
  rintro i x H H' hi ⟨he, hd⟩ y
  have e : ∀ (C : VK) (B : Hp → Prop), (fun σ2 H2 => wipe σ2 vs = wipe σ vs ∧ tYes σ2 H2 fun b H3 => if b = true then te σ2 H3 C else B H3) = fun σ2 H2 => wipe σ2 vs = wipe σ vs ∧ te σ2 H2 C := by
    intro C B
    funext σ2 H2
    simp [tYes]
  rw [e]
  refine hs i H x H' hi he y _ fun H4 e4 => ?_
  refine ⟨_, e4 _ _ hd, by rw [List.length_map, List.length_range]; omega, ext_local hD (he.trans e4) extD_upd, ?_⟩
  rw [upd_same, List.range_succ, List.map_append]
  rfl
/-- the values of a walk over a list, a tuple -/
theorem map_range_at {xs : List V} {f : V → V} {d : V} : (List.range xs.length).map (fun i => f (xs.getD i d)) = xs.map f := by
  apply List.ext_getElem
  · simp
  · intro i h1 h2
    simp at h1 h2
    simp [h2]
/-- any invariant -/
theorem w_lcI (w : Walk J n G Y) (Pv : Nat → Addr → Hp → Prop) (h0 : ∀ D, H1 D = none → Pv 0 D (upd H1 D (.lst []))) (hG : ∀ D i H, i ≤ n → Pv i D H → G H)
    (hs : ∀ D i x H H', H1 D = none → i < n → Pv i D H → Y i H x H' → g x (wipe σ vs) H' fun σ2 H2 => wipe σ2 vs = wipe σ vs ∧ tt σ2 H2 fun b H3 =>
      if b = true then te σ2 H3 fun y H4 => ∃ acc, H4 D = some (.lst acc) ∧ acc.length < sizeLine ∧ Pv (i + 1) D (upd H4 D (.lst (acc ++ [y]))) else Pv (i + 1) D H3)
    (hd : ∀ D H, H1 D = none → Pv n D H → Q (.ref D) H) : lcR g tt te vs σ Q J H1 :=
  fun D hD => lc_it w (fun i => Pv i D) (h0 D hD) (hG D) (fun i x H H' => hs D i x H H' hD) (fun H => hd D H hD)
/-! ### loops over any walk -/
theorem w_forIt {D : Ends} {tb : TS} (w : Walk J n G Y) (Pv : Nat → L2.St → Hp → Prop) (h0 : Pv 0 σ H) (hG : ∀ i σ H, i ≤ n → Pv i σ H → G H)
    (hs : ∀ i x σ H H', i < n → Pv i σ H → Y i H x H' → g x σ H' fun σ2 H2 => tb { D with nx := Pv (i + 1), ct := Pv (i + 1), bk := D.nx } σ2 H2) (hd : ∀ σ H, Pv n σ H → D.nx σ H) : forR g tb D σ J H := for_it w Pv h0 hG hs hd
theorem w_iStr {R : It → Hp → Prop} (h : te σ H fun v H1 => ∃ x, v = .str x ∧ R (Its x) H1) : iStr te σ H R := h
end
/-! ### membership -/
def kIn (K : PySem.W.Frag) : R2 := fun x y H Q => rIn K false x y H Q ∨ (∃ (c : Nat) (z : Str), x = .str ⟨#[c]⟩ ∧ y = .str z ∧ Q (.bl (decide (c ∈ z.cps.toList))) H) ∨ (∃ i j, x = .str i ∧ y = .str j ∧ Q (.bl (!(Builtin.Str.occurrences j i 0 j.length 1).isEmpty)) H)
def kNotIn (K : PySem.W.Frag) : R2 := fun x y H Q => rIn K true x y H Q ∨ (∃ (c : Nat) (z : Str), x = .str ⟨#[c]⟩ ∧ y = .str z ∧ Q (.bl (!decide (c ∈ z.cps.toList))) H)
section
variable {X : Cx} {K : PySem.W.Frag} {H : Hp} {Q : VK} {x : V}
theorem o_in (K : PySem.W.Frag) (hK : X.K = K := by rfl) : OpR X (compareOp .In) (kIn K) := by subst hK; exact op_in_seq.or (op_in_sign.or op_in_str)
theorem o_notin (K : PySem.W.Frag) (hK : X.K = K := by rfl) : OpR X (compareOp .NotIn) (kNotIn K) := by subst hK; exact op_notIn_seq.or op_notIn_sign
theorem w_inT {p : Addr} {xs : List V} (h : SqT K H p xs) (hx : flatV x = true) (hf : xs.all flatV = true) (q : Q (.bl (inV x xs)) H) : kIn K x (.ref p) H Q := .inl ⟨p, xs, rfl, .inr h, hx, hf, q⟩
theorem w_inL {p : Addr} {xs : List V} (h : SqL K H p xs) (hx : flatV x = true) (hf : xs.all flatV = true) (q : Q (.bl (inV x xs)) H) : kIn K x (.ref p) H Q := .inl ⟨p, xs, rfl, .inl h, hx, hf, q⟩
theorem w_inS {c : Nat} {z : Str} (q : Q (.bl (decide (c ∈ z.cps.toList))) H) : kIn K (.str ⟨#[c]⟩) (.str z) H Q := .inr (.inl ⟨c, z, rfl, rfl, q⟩)
end
/-! ### all, any -/
theorem w_all {K : PySem.W.Frag} {H : Hp} {Q : VK} {p : Addr} {bs : List Bool} (h : SqL K H p (bs.map V.bl)) (q : Q (.bl (bs.all id)) H) : rAll K [.ref p] H Q := ⟨p, bs, rfl, h, q⟩
theorem w_any {K : PySem.W.Frag} {H : Hp} {Q : VK} {p : Addr} {bs : List Bool} (h : SqL K H p (bs.map V.bl)) (q : Q (.bl (bs.any id)) H) : rAny K [.ref p] H Q := ⟨p, bs, rfl, h, q⟩
theorem c_all {X : Cx} (K : PySem.W.Frag) (hc : X.calm = true) (hK : X.K = K := by rfl) : CallR X (.builtin "all") (rAll K) := by subst hK; exact cr_all hc
theorem c_any {X : Cx} (K : PySem.W.Frag) (hc : X.calm = true) (hK : X.K = K := by rfl) : CallR X (.builtin "any") (rAny K) := by subst hK; exact cr_any hc
end Pw

/-! ## Part J: texts by their signs; walks over any plain row -/
namespace Pw
open PySem PySem.Spec PyProof.Rows L2
open SX (S)

theorem tk0 {X : Cx} : Takes X (fun _ _ _ _ => False) := fun _ _ x => by
  obtain ⟨_, _, _, _, _, _, _, _, _, _, _, _, _, _, _, _, z⟩ := x
  exact z.elim
/-! ### any list, tuple, text, walked -/
def iAny (K : PySem.W.Frag) (te : TE) : TI := fun σ H R => te σ H fun v H1 => (∃ a, v = .ref a ∧ (∃ xs, SqL K H1 a xs) ∧ R (Itl K a) H1) ∨ (∃ a, v = .ref a ∧ (∃ xs, SqT K H1 a xs) ∧ R (Itt K a) H1) ∨ (∃ x, v = .str x ∧ R (Its x) H1)
theorem pi_any {X : Cx} {tg e : Expr} {te : TE} (K : PySem.W.Frag) (he : PE X e te) (hK : X.K = K := by rfl) : PI X tg e (iAny K te) := by
  subst hK
  refine ⟨fun pins s σ H R I h => ?_⟩
  refine thn (he.run pins s σ H _ I h) fun v s1 ⟨x, H1, I1, r1, q1⟩ => ?_
  rcases q1 with ⟨a, e, ⟨xs, hq⟩, q⟩ | ⟨a, e, ⟨xs, hq⟩, q⟩ | ⟨z, e, q⟩
  · subst e
    cases r1
    obtain ⟨its, rv, p, hz⟩ := I1.list hq
    exact wpAny_pyIter_list p.isList (pi_one (tk := s1.toks) I1 _ (turn_list a _) ⟨_, Heap.get?_push_size _ rfl, rfl, rfl⟩ q)
  · subst e
    cases r1
    obtain ⟨its, rv, p, hz⟩ := I1.tuple hq
    exact wpAny_pyIter_tuple (show s1.heap.IsTuple a its.toArray from p) (pi_one (tk := s1.toks) I1 _ (turn_tuple a _) ⟨_, Heap.get?_push_size _ rfl, rfl, rfl⟩ q)
  · subst e
    obtain ⟨t, rfl⟩ := r1
    cases ha : z.cps.all (· < 128)
    · exact wpAny_pyIter_wide ha (pi_one (tk := s1.toks) I1 _ (turn_str _ z t "str_iterator" (.inr rfl)) ⟨_, Heap.get?_push_size _ rfl, rfl, rfl⟩ q)
    · exact wpAny_pyIter_ascii ha (pi_one (tk := s1.toks) I1 _ (turn_str _ z t "str_ascii_iterator" (.inl rfl)) ⟨_, Heap.get?_push_size _ rfl, rfl, rfl⟩ q)
section
variable {σ : L2.St} {H H1 : Hp} {te : TE} {K : PySem.W.Frag} {R : It → Hp → Prop} {Q : VK} {a b : Addr} {xs : List V} {z : Str} {l m : List Nat}
def anyR (K : PySem.W.Frag) (R : It → Hp → Prop) (v : V) (H1 : Hp) : Prop := (∃ a, v = .ref a ∧ (∃ xs, SqL K H1 a xs) ∧ R (Itl K a) H1) ∨ (∃ a, v = .ref a ∧ (∃ xs, SqT K H1 a xs) ∧ R (Itt K a) H1) ∨ (∃ x, v = .str x ∧ R (Its x) H1)
theorem w_iAny (h : te σ H (anyR K R)) : iAny K te σ H R := h
theorem w_anyL (h : SqL K H a xs) (q : R (Itl K a) H) : anyR K R (.ref a) H := .inl ⟨a, rfl, ⟨xs, h⟩, q⟩
theorem w_anyT (h : SqT K H a xs) (q : R (Itt K a) H) : anyR K R (.ref a) H := .inr (.inl ⟨a, rfl, ⟨xs, h⟩, q⟩)
theorem w_anyS (q : R (Its z) H) : anyR K R (.str z) H := .inr (.inr ⟨z, rfl, q⟩)
/-! ### texts by their signs -/
theorem sz {n : Nat} (h : n ≤ 1000000) : n ≤ sizeLine := by
  rw [sizeLine_eq]
  omega
theorem S_app (l m : List Nat) : S l ++ S m = S (l ++ m) := SX.S_cat l m
theorem w_add_S (hl : l.length + m.length ≤ 1000000) (h : Q (.str (S (l ++ m))) H) : kAdd K (.str (S l)) (.str (S m)) H Q := w_add_s (by rw [SX.S_len, SX.S_len]; exact sz hl) (by rw [S_app]; exact h)
theorem w_len_S (hl : l.length ≤ 1000000) (h : Q (.int l.length) H) : kLen K [.str (S l)] H Q := w_len_s (by rw [SX.S_len]; exact sz hl) (by rw [SX.S_len]; exact h)
theorem cut_S (l : List Nat) (lo hi : Option Int) : cutS (S l) lo hi = S ((l.drop (HT.sIx l.length 0 lo)).take (HT.sIx l.length l.length hi - HT.sIx l.length 0 lo)) := by
  unfold cutS
  rw [SX.S_len]
theorem cut_to {i : Int} (h : 0 ≤ i) : cutS (S l) none (some i) = S (l.take i.toNat) := by
  rw [cut_S]
  refine congrArg S ?_
  have e : ¬ i < 0 := by omega
  simp only [HT.sIx, e, if_false, List.drop_zero, Nat.sub_zero]
  rw [Nat.min_comm, ← List.take_take]
  exact List.take_of_length_le (by simp; omega)
theorem cut_from {i : Int} (h : 0 ≤ i) : cutS (S l) (some i) none = S (l.drop i.toNat) := by
  rw [cut_S]
  refine congrArg S ?_
  have e : ¬ i < 0 := by omega
  simp only [HT.sIx, e, if_false]
  by_cases c : i.toNat ≤ l.length
  · rw [Nat.min_eq_left c, List.take_of_length_le (by simp)]
  · rw [Nat.min_eq_right (by omega), List.drop_of_length_le (Nat.le_refl _), List.drop_of_length_le (by omega)]
    simp
theorem cut_mid {i j : Int} (h : 0 ≤ i) (h2 : 0 ≤ j) : cutS (S l) (some i) (some j) = S ((l.drop i.toNat).take (j.toNat - i.toNat)) := by
  rw [cut_S]
  refine congrArg S ?_
  have e : ¬ i < 0 := by omega
  have e2 : ¬ j < 0 := by omega
  simp only [HT.sIx, e, e2, if_false]
  by_cases c : i.toNat ≤ l.length
  · rw [Nat.min_eq_left c]
    by_cases c2 : j.toNat ≤ l.length
    · rw [Nat.min_eq_left c2]
    · rw [Nat.min_eq_right (by omega), List.take_of_length_le (by simp), List.take_of_length_le (by simp; omega)]
  · rw [Nat.min_eq_right (a := i.toNat) (by omega), List.drop_of_length_le (Nat.le_refl _), List.drop_of_length_le (by omega)]
    simp
theorem cut_toN {k : Nat} (hk : 0 < k) : cutS (S l) none (some (-(k : Int))) = S (l.take (l.length - k)) := by
  rw [cut_S]
  refine congrArg S ?_
  have e : -(k : Int) < 0 := by omega
  simp only [HT.sIx, e, if_true, List.drop_zero, Nat.sub_zero]
  congr 1
  omega
theorem cut_fromN {k : Nat} (hk : 0 < k) : cutS (S l) (some (-(k : Int))) none = S (l.drop (l.length - k)) := by
  rw [cut_S]
  refine congrArg S ?_
  have e : -(k : Int) < 0 := by omega
  simp only [HT.sIx, e, if_true]
  have e2 : (-(k : Int) + (l.length : Int)).toNat = l.length - k := by omega
  rw [e2, List.take_of_length_le (by simp)]
theorem w_cut_to {i : Int} (hl : l.length ≤ 1000000) (h : 0 ≤ i) (q : Q (.str (S (l.take i.toNat))) H) : rSl K (.str (S l)) none (some i) H Q := w_slS (by rw [SX.S_len]; exact sz hl) (by rw [cut_to h]; exact q)
theorem w_cut_from {i : Int} (hl : l.length ≤ 1000000) (h : 0 ≤ i) (q : Q (.str (S (l.drop i.toNat))) H) : rSl K (.str (S l)) (some i) none H Q := w_slS (by rw [SX.S_len]; exact sz hl) (by rw [cut_from h]; exact q)
theorem w_cut_mid {i j : Int} (hl : l.length ≤ 1000000) (h : 0 ≤ i) (h2 : 0 ≤ j) (q : Q (.str (S ((l.drop i.toNat).take (j.toNat - i.toNat)))) H) : rSl K (.str (S l)) (some i) (some j) H Q := w_slS (by rw [SX.S_len]; exact sz hl) (by rw [cut_mid h h2]; exact q)
theorem w_cut_toN {i : Int} {k : Nat} (hl : l.length ≤ 1000000) (e : i = -(k : Int)) (hk : 0 < k) (q : Q (.str (S (l.take (l.length - k)))) H) : rSl K (.str (S l)) none (some i) H Q := w_slS (by rw [SX.S_len]; exact sz hl) (by rw [e, cut_toN hk]; exact q)
theorem w_cut_fromN {i : Int} {k : Nat} (hl : l.length ≤ 1000000) (e : i = -(k : Int)) (hk : 0 < k) (q : Q (.str (S (l.drop (l.length - k)))) H) : rSl K (.str (S l)) (some i) none H Q := w_slS (by rw [SX.S_len]; exact sz hl) (by rw [e, cut_fromN hk]; exact q)
/-- one sign -/
theorem w_ix_S {i : Int} {c : Nat} (hl : l.length ≤ 1000000) (e : atI l i = some c) (q : Q (.str (S [c])) H) : rIx K (.str (S l)) (.int i) H Q := w_ixS (by rw [SX.S_len]; exact sz hl) e q
theorem atN {α : Type} {l : List α} {i : Int} {c : α} (h : 0 ≤ i) (e : l[i.toNat]? = some c) : atI l i = some c := by
  have : i = (i.toNat : Int) := by omega
  rw [this]
  exact atI_nat e
theorem w_in_S {c : Nat} (q : Q (.bl (decide (c ∈ l))) H) : kIn K (.str (S [c])) (.str (S l)) H Q := w_inS q
/-- equal texts -/
theorem beqS : (S l == S m) = decide (l = m) := SX.S_beq_eq
/-! ### methods of texts -/
theorem w_tyS {P : Prop} (h : P) : tyV K "str" (.str z) H ∧ P := ⟨rfl, h⟩
def kSplit : V → List V → Hp → VK → Prop := fun x xs H Q => ∃ a b, x = .str a ∧ xs = [.str b] ∧ (b.length == 0) = false ∧ a.length + 2 ≤ sizeLine ∧ rNewStrs (Txt.split a b) H Q
def kPart : V → List V → Hp → VK → Prop := fun x xs H Q => ∃ a b, x = .str a ∧ xs = [.str b] ∧ (b.length == 0) = false ∧ a.length ≤ sizeLine ∧
    ∀ p, H p = none → Q (.ref p) (upd H p (.tup [.str (Txt.partition a b).1, .str (Txt.partition a b).2.1, .str (Txt.partition a b).2.2]))
def kStrip : V → List V → Hp → VK → Prop := fun x xs H Q => ∃ a b, x = .str a ∧ xs = [.str b] ∧ a.length ≤ sizeLine ∧ Q (.str (Txt.stripChars a b)) H
def kLstrip : V → List V → Hp → VK → Prop := fun x xs H Q => ∃ a b, x = .str a ∧ xs = [.str b] ∧ a.length ≤ sizeLine ∧ Q (.str (Txt.lstripChars a b)) H
def kJoin (K : PySem.W.Frag) : V → List V → Hp → VK → Prop := fun x xs H Q => ∃ a p, ∃ ys : List Str, x = .str a ∧ xs = [.ref p] ∧ (SqL K H p (ys.map V.str) ∨ SqT K H p (ys.map V.str)) ∧
    (ys.map (·.length)).sum + ys.length * a.length ≤ 16777216 ∧ Q (.str (Txt.join a ys)) H
def kStr : List V → Hp → VK → Prop := fun xs H Q => (∃ i, xs = [.int i] ∧ i.natAbs.log2 < 1920 ∧ Q (.str (toString i)) H) ∨ ∃ a, xs = [.str a] ∧ Q (.str a) H
theorem m_split {X : Cx} : MtR X "str.split" kSplit := mt_split
theorem m_partition {X : Cx} : MtR X "str.partition" kPart := mt_partition
theorem m_strip {X : Cx} : MtR X "str.strip" kStrip := mt_stripChars
theorem m_lstrip {X : Cx} : MtR X "str.lstrip" kLstrip := mt_lstripChars
theorem m_join {X : Cx} (K : PySem.W.Frag) (hK : X.K = K := by rfl) : MtR X "str.join" (kJoin K) := by subst hK; exact mt_join
theorem c_str {X : Cx} : CallR X (.type "str") kStr := call_str_int.or SkE.call_str_str
theorem w_split {c : Nat} (hl : l.length ≤ 1000000) (hc : c < 256) (h : ∀ p H', H p = none → Ext H H' → H' p = some (.lst ((TL.spl [c] 0 [] l).map fun x => V.str (S x))) → Q (.ref p) H') : kSplit (.str (S l)) [.str (S [c])] H Q := by
  refine ⟨_, _, rfl, rfl, rfl, by rw [SX.S_len, sizeLine_eq]; omega, fun p hp => ?_⟩
  refine h p _ hp (ext_upd hp) ?_
  rw [upd_same, SX.split_S (by simp) (by simpa using hc), List.map_map]
  rfl
theorem w_part1 {c : Nat} (hl : l.length + m.length < 1000000) (hc : c ∉ l) (h : ∀ p H', H p = none → Ext H H' → H' p = some (.tup [.str (S l), .str (S [c]), .str (S m)]) → Q (.ref p) H') : kPart (.str (S (l ++ c :: m))) [.str (S [c])] H Q := by
  refine ⟨_, _, rfl, rfl, rfl, by rw [SX.S_len]; exact sz (by simp; omega), fun p hp => ?_⟩
  refine h p _ hp (ext_upd hp) ?_
  have e := SX.partition_some (p := l) (q := m) (by simp) (SX.par_head (sep := []) m hc)
  have e2 : l ++ ([c] ++ m) = l ++ c :: m := rfl
  rw [e2] at e
  rw [upd_same, e]
theorem w_part0 {c : Nat} (hl : l.length ≤ 1000000) (hc : c ∉ l) (h : ∀ p H', H p = none → Ext H H' → H' p = some (.tup [.str (S l), .str (S []), .str (S [])]) → Q (.ref p) H') : kPart (.str (S l)) [.str (S [c])] H Q := by
  refine ⟨_, _, rfl, rfl, rfl, by rw [SX.S_len]; exact sz hl, fun p hp => ?_⟩
  refine h p _ hp (ext_upd hp) ?_
  rw [upd_same, SX.partition_none (by simp) (SX.par_head_none hc)]
theorem tw_all {p : Nat → Bool} (h : ∀ c ∈ l, p c = true) : l.takeWhile p = l := by
  induction l with
  | nil => rfl
  | cons c r ih => rw [List.takeWhile_cons, if_pos (h c (by simp)), ih fun x hx => h x (by simp [hx])]
theorem strip_all (h : ∀ c ∈ l, c ∈ m) : Txt.stripChars (S l) (S m) = S [] := by
  unfold Txt.stripChars
  rw [stripBy_eq]
  have e : stripLo (S m).cps.contains true (S l) = l.length := by
    show (List.takeWhile _ l).length = _
    rw [tw_all]
    intro c hc
    simpa using h c hc
  rw [e]
  apply TL.ext_tl
  show (Array.extract _ _ _).toList = []
  simp [stripHi]
theorem lstrip_S : Txt.lstripChars (S l) (S m) = S (l.dropWhile fun c => decide (c ∈ m)) := by
  unfold Txt.lstripChars
  rw [stripBy_eq]
  have ec : (S m).cps.contains = fun c => decide (c ∈ m) := by
    funext c
    simp
  rw [ec]
  apply TL.ext_tl
  show (Array.extract _ _ _).toList = l.dropWhile _
  have e : ∀ l : List Nat, l.drop (l.takeWhile fun c => decide (c ∈ m)).length = l.dropWhile fun c => decide (c ∈ m) := by
    intro l
    induction l with
    | nil => rfl
    | cons c r ih =>
      rw [List.takeWhile_cons, List.dropWhile_cons]
      split
      · simpa using ih
      · rfl
  rw [← e l]
  simp [stripHi, stripLo, Str.length]
  exact List.take_of_length_le (by simp)
theorem w_strip_all (hl : l.length ≤ 1000000) (h : ∀ c ∈ l, c ∈ m) (q : Q (.str (S [])) H) : kStrip (.str (S l)) [.str (S m)] H Q := ⟨_, _, rfl, rfl, by rw [SX.S_len]; exact sz hl, by rw [strip_all h]; exact q⟩
theorem w_lstrip (hl : l.length ≤ 1000000) (q : Q (.str (S (l.dropWhile fun c => decide (c ∈ m)))) H) : kLstrip (.str (S l)) [.str (S m)] H Q := ⟨_, _, rfl, rfl, by rw [SX.S_len]; exact sz hl, by rw [lstrip_S]; exact q⟩
theorem joinL_nil : ∀ ys : List (List Nat), TL.joinL [] ys = ys.flatten
  | [] => rfl
  | [p] => by simp [TL.joinL]
  | p :: q :: r => by
    show p ++ ([] ++ TL.joinL [] (q :: r)) = _
    rw [joinL_nil (q :: r)]
    simp
theorem w_join0 {p : Addr} {ys : List (List Nat)} (h : SqL K H p (ys.map fun y => V.str (S y))) (hl : ys.flatten.length ≤ 1000000) (q : Q (.str (S ys.flatten)) H) : kJoin K (.str (S [])) [.ref p] H Q := by
  refine ⟨_, p, ys.map S, rfl, rfl, .inl (by rw [List.map_map]; exact h), ?_, ?_⟩
  · rw [SX.lens]
    have : (ys.map (·.length)).sum = ys.flatten.length := by rw [List.length_flatten]
    rw [this, SX.S_len, List.length_nil, Nat.mul_zero]
    omega
  · rw [SX.join_S, joinL_nil]
    exact q
theorem w_str_i {i : Int} (h : i.natAbs.log2 < 1920) (q : Q (.str (toString i)) H) : kStr [.int i] H Q := .inl ⟨i, rfl, h, q⟩
theorem w_str_n {n : Nat} (h : n < 2 ^ 100) (q : Q (.str (S (TL.numL n))) H) : kStr [.int n] H Q := by
  refine w_str_i ?_ ?_
  · rw [Int.natAbs_natCast]
    by_cases c : n = 0
    · subst c
      decide
    · have := (Nat.log2_lt c (k := 100)).mpr h
      omega
  · have : (toString (n : Int) : Str) = S (TL.numL n) := SX.num_S n
    rw [this]
    exact q
/-- int of digits -/
theorem w_int_S (h : l.all (fun c => decide (48 ≤ c) && decide (c ≤ 57)) = true) (hne : l ≠ []) (hl : l.length ≤ 640) (q : Q (.int (NumText.digitsVal l : Nat)) H) : kInt [.str (S l)] H Q := .inr ⟨_, _, rfl, SX.int_S h hne (by omega), by rw [SX.S_len]; exact hl, q⟩
/-! ### loops, targets -/
theorem w_turn {W : Nat → L2.St → Hp → Prop} {m : Nat} {D : Ends} {tb : TS} {σ : L2.St} {H : Hp} (h : tb { D with nx := fun σ' H' => ∃ m', m' < m ∧ W m' σ' H', ct := fun σ' H' => ∃ m', m' < m ∧ W m' σ' H', bk := D.nx } σ H) :
    ∃ N : L2.St → Hp → Prop, (∀ σ' H', N σ' H' → ∃ m', m' < m ∧ W m' σ' H') ∧ tb { D with nx := N, ct := N, bk := D.nx } σ H := ⟨_, fun _ _ h => h, h⟩
theorem w_whileI {c : TT} {tb : TS} {D : Ends} {σ : L2.St} {H : Hp} (W : Nat → L2.St → Hp → Prop) {m0 : Nat} (h0 : W m0 σ H) (hs : ∀ m σ H, W m σ H →
  c σ H fun b H1 => if b = true then ∃ N : L2.St → Hp → Prop, (∀ σ' H', N σ' H' → ∃ m', m' < m ∧ W m' σ' H') ∧ tb { D with nx := N, ct := N, bk := D.nx } σ H1 else D.nx σ H1) : tWhile c tb D σ H := ⟨W, ⟨m0, h0⟩, hs⟩
theorem w_aug {D : Ends} {i : Nat} {te : TE} {ti : TIp} {σ : L2.St} {H : Hp} {x : V} (e : σ[i]? = some (some x)) (h : te σ H fun y H1 => ti x y H1 fun z H2 => D.nx (σ.set i (some z)) H2) : tAug i te ti D σ H := ⟨x, e, h⟩
theorem w_ipI {f : Int → Int → Int} {i j : Int} {H : Hp} {Q : VK} (h : Q (.int (f i j)) H) : ipI f (.int i) (.int j) H Q := ⟨i, j, rfl, rfl, h⟩
theorem w_gTup {n : Nat} {t : TGs} {a : Addr} {xs : List V} {QS : L2.St → Hp → Prop} (hx : SqT K H a xs) (hl : xs.length = n) (h : t xs σ H QS) : gTup K n t (.ref a) σ H QS := ⟨a, xs, rfl, hx, hl, h⟩
theorem w_gCons {t : TG} {u : TGs} {v : V} {r : List V} {QS : L2.St → Hp → Prop} (h : t v σ H fun σ' H' => u r σ' H' QS) : gCons t u (v :: r) σ H QS := ⟨v, r, rfl, h⟩
theorem w_gNil {QS : L2.St → Hp → Prop} (h : QS σ H) : gNil [] σ H QS := ⟨rfl, h⟩
/-! ### written texts -/
theorem pe_S {X : Cx} (l : List Nat) {x : Str} {j pos} (e : x = S l) : PE X (.Constant (.str x) j pos) (tC (.str (S l))) := by
  subst e
  exact pe_str
theorem pe_gS {X : Cx} (l : List Nat) {x : Str} {z : Str} {pos : Pos} (h : ∃ t, X.mg x = some (.str z t)) (e : z = S l) (hg : Gl X x := by rfl) (hd : (x == ("__debug__" : Str)) = false := by decide) : PE X (.Name x pos) (tC (.str (S l))) := by
  subst e
  exact pe_gstr h hg hd
theorem w_eq_S (h : Q (.bl (decide (l = m))) H) : kEq K (.str (S l)) (.str (S m)) H Q := w_eq_s (by
  have e : decide (S l = S m) = decide (l = m) := decide_eq_decide.mpr ⟨SX.S_inj, fun e => by rw [e]⟩
  rw [e]
  exact h)
theorem w_ne_S (h : Q (.bl (!decide (l = m))) H) : kNe K (.str (S l)) (.str (S m)) H Q := w_ne_s (by
  have e : decide (S l = S m) = decide (l = m) := decide_eq_decide.mpr ⟨SX.S_inj, fun e => by rw [e]⟩
  rw [e]
  exact h)
theorem repS_one (c k : Nat) : repS (S [c]) k = S (List.replicate k c) := by
  refine TL.ext_tl ?_
  show (List.replicate k [c]).flatten = List.replicate k c
  induction k with
  | zero => rfl
  | succ k ih => rw [List.replicate_succ, List.flatten_cons, ih]; rfl
theorem w_mul_S {c k : Nat} (h1 : k ≤ 100000) (h : Q (.str (S (List.replicate k c))) H) : kMul (.str (S [c])) (.int k) H Q := w_mul_s (by omega) (by omega) (by rw [SX.S_len]; exact Nat.le_of_ble_eq_true rfl) (by rw [Int.toNat_natCast, repS_one]; exact h)
/-- one sign of a text cut out -/
theorem cut_one {h : Nat} {c : Nat} : ((l.drop h).take (h + 1 - h) = [c]) ↔ l[h]? = some c := by
  have e : h + 1 - h = 1 := by omega
  rw [e]
  have e2 : l[h]? = (l.drop h)[0]? := by simp
  rw [e2]
  cases l.drop h <;> simp
theorem take_one {c : Nat} : (l.take 1 = [c]) ↔ l.head? = some c := by cases l <;> simp
/-! ### raise of an exception that keeps its argument -/
def mkR (C : Addr) (f : Str) (QX : XK) (vs : List V) (H1 : Hp) : Prop := ∃ v, vs = [v] ∧ ∀ d, H1 d = none → QX (.ref C) (some d) (upd H1 d (.xd [(f, v)]))
theorem w_mkSup {C : Addr} {f : Str} {ta : TA} {QX : XK} (h : ta σ H fun vs H1 => mkR C f QX vs H1) : tMkSup C f ta σ H QX := h
theorem w_mkR {C : Addr} {f : Str} {QX : XK} {v : V} (h : ∀ d, H d = none → QX (.ref C) (some d) (upd H d (.xd [(f, v)]))) : mkR C f QX [v] H := ⟨v, rfl, h⟩
theorem w_chain {r r' : R2} {ta tb tc : TE} (h : ta σ H fun x H1 => tb σ H1 fun y H2 => r x y H2 fun z H3 => ∃ k, z = .bl k ∧ (if k = true then tc σ H3 fun w' H4 => r' y w' H4 Q else Q (.bl false) H3)) : tChain r r' ta tb tc σ H Q := h
theorem w_partV {a : Int} {P : Int → Prop} (h : P a) : ∃ i, V.int a = .int i ∧ P i := ⟨a, rfl, h⟩
end
end Pw

/-! ## Texts of lengths: the mathematics -/
namespace Len
def isDig (c : Nat) : Bool := decide (48 ≤ c ∧ c ≤ 57)
/-- how many figures stand ahead, at most so many -/
def figs : Nat → List Nat → Nat
  | 0, _ => 0
  | _, [] => 0
  | m + 1, c :: r => if isDig c = true then figs m r + 1 else 0
theorem figs_le (m : Nat) : ∀ l, figs m l ≤ m ∧ figs m l ≤ l.length := by
  induction m with
  | zero => intro l; cases l <;> simp [figs]
  | succ m ih =>
    intro l
    cases l with
    | nil => simp [figs]
    | cons c r =>
      unfold figs
      have := ih r
      split <;> simp <;> omega
def reqPoints (l : List Nat) (s : Nat) : Option Nat :=
  if l[s]? ≠ some 112 then some s else if l[s + 1]? ≠ some 116 then some (s + 1) else if s + 2 < l.length then some (s + 2) else none
def reqDec (l : List Nat) (s : Nat) : Option Nat :=
  let h := s + figs 9 (l.drop s)
  if h = s then some h else reqPoints l h
def reqText (l : List Nat) : Option Nat :=
  let st := if l.head? = some 45 then 1 else 0
  let m := figs 10 (l.drop st)
  let h := st + m
  if l[h]? = some 46 ∧ m ≤ 5 then reqDec l (h + 1)
  else if l[h]? = some 117 ∧ 0 < m then (if h + 1 < l.length then some (h + 1) else none)
  else if l[h]? = some 112 ∧ 1 ≤ m ∧ m ≤ 5 then reqPoints l h
  else some h
/-- where a reader of such a text can stand -/
inductive Sta where
  | s0 | s1 | d (n : Nat) | dot | e (n : Nat) | p | pt | u
  deriving DecidableEq
def step : Sta → Nat → Option Sta
  | .s0, c => if c = 45 then some .s1 else if isDig c = true then some (.d 1) else if c = 46 then some .dot else none
  | .s1, c => if isDig c = true then some (.d 1) else if c = 46 then some .dot else none
  | .d n, c => if isDig c = true then (if n < 10 then some (.d (n + 1)) else none) else if c = 46 then (if n ≤ 5 then some .dot else none) else if c = 117 then some .u else if c = 112 then (if n ≤ 5 then some .p else none) else none
  | .dot, c => if isDig c = true then some (.e 1) else none
  | .e n, c => if isDig c = true then (if n < 9 then some (.e (n + 1)) else none) else if c = 112 then some .p else none
  | .p, c => if c = 116 then some .pt else none
  | .pt, _ => none
  | .u, _ => none
def fin : Sta → Bool
  | .pt => true
  | .u => true
  | _ => false
def run : Sta → List Nat → Option Sta
  | s, [] => some s
  | s, c :: r => match step s c with
    | some s' => run s' r
    | none => none
/-- the index of the error, if there is one -/
def err : Sta → List Nat → Option Nat
  | s, [] => if fin s = true then none else some 0
  | s, c :: r => match step s c with
    | some s' => (err s' r).map (· + 1)
    | none => some 0
theorem err_pt (l : List Nat) : err .pt l = if 0 < l.length then some 0 else none := by cases l <;> simp [err, step, fin]
theorem err_u (l : List Nat) : err .u l = if 0 < l.length then some 0 else none := by cases l <;> simp [err, step, fin]
theorem err_p (l : List Nat) : err .p l = if l[0]? ≠ some 116 then some 0 else if 1 < l.length then some 1 else none := by
  cases l with
  | nil => simp [err, fin]
  | cons c r =>
    by_cases h : c = 116
    · subst h
      simp only [err, step, if_true, err_pt]
      cases r <;> simp
    · simp [err, step, h]
def ptE (l : List Nat) : Option Nat := if l[0]? ≠ some 112 then some 0 else if l[1]? ≠ some 116 then some 1 else if 2 < l.length then some 2 else none
theorem err_pE (r : List Nat) : (err .p r).map (· + 1) = ptE (112 :: r) := by
  rw [err_p]
  unfold ptE
  simp only [List.getElem?_cons_zero, List.getElem?_cons_succ, List.length_cons]
  by_cases h1 : r[0]? = some 116
  · by_cases h2 : 1 < r.length
    · simp [h1, h2]
    · simp [h1, h2]
      omega
  · simp [h1]
theorem notDig112 : isDig 112 = false := by decide
theorem err_e (l : List Nat) : ∀ n, 1 ≤ n → n ≤ 9 → err (.e n) l = (ptE (l.drop (figs (9 - n) l))).map (· + figs (9 - n) l) := by
  induction l with
  | nil =>
    intro n h1 h2
    have e : figs (9 - n) ([] : List Nat) = 0 := by cases (9 - n) <;> rfl
    rw [e]
    rfl
  | cons c r ih =>
    intro n h1 h2
    by_cases hd : isDig c = true
    · by_cases hn : n < 9
      · have e : 9 - n = (9 - (n + 1)) + 1 := by omega
        have e2 : figs (9 - n) (c :: r) = figs (9 - (n + 1)) r + 1 := by rw [e]; simp [figs, hd]
        simp only [err, step, hd, if_true, hn]
        rw [ih (n + 1) (by omega) (by omega), e2, List.drop_succ_cons, Option.map_map]
        congr 1
      · have e : 9 - n = 0 := by omega
        have c112 : c ≠ 112 := by rintro rfl; rw [notDig112] at hd; cases hd
        simp only [err, step, hd, if_true, hn, if_false, e, figs, List.drop_zero]
        unfold ptE
        simp [c112]
    · have e2 : figs (9 - n) (c :: r) = 0 := by
        cases h : (9 - n) with
        | zero => rfl
        | succ k => simp [figs, hd]
      rw [e2]
      simp only [err, step, hd, List.drop_zero, Nat.add_zero, Option.map_id']
      by_cases h : c = 112
      · subst h
        simp only [if_true]
        exact err_pE r
      · simp only [h, if_false]
        unfold ptE
        simp [h]
theorem reqPoints_ptE (l : List Nat) (s : Nat) : reqPoints l s = (ptE (l.drop s)).map (s + ·) := by
  unfold reqPoints ptE
  simp only [List.getElem?_drop, List.length_drop, Nat.add_zero]
  by_cases h1 : l[s]? = some 112
  · by_cases h2 : l[s + 1]? = some 116
    · by_cases h3 : s + 2 < l.length
      · have : 2 < l.length - s := by omega
        simp [h1, h2, h3, this]
      · have : ¬ 2 < l.length - s := by omega
        simp [h1, h2, h3, this]
    · simp [h1, h2]
  · simp [h1]
/-- behind the point -/
def decE (l : List Nat) : Option Nat := let m := figs 9 l; if m = 0 then some 0 else (ptE (l.drop m)).map (· + m)
theorem reqDec_decE (l : List Nat) (s : Nat) : reqDec l s = (decE (l.drop s)).map (s + ·) := by
  unfold reqDec decE
  simp only
  by_cases h : figs 9 (l.drop s) = 0
  · simp [h]
  · have : ¬ s + figs 9 (l.drop s) = s := by omega
    rw [if_neg this, if_neg h, reqPoints_ptE, List.drop_drop, Option.map_map]
    congr 1
    funext x
    simp
    omega
theorem err_dot (l : List Nat) : err .dot l = decE l := by
  cases l with
  | nil => rfl
  | cons c r =>
    unfold decE
    by_cases hd : isDig c = true
    · have e : figs 9 (c :: r) = figs 8 r + 1 := by simp [figs, hd]
      simp only [err, step, hd, if_true]
      rw [err_e r 1 (by omega) (by omega), e, if_neg (by omega), List.drop_succ_cons, Option.map_map]
      congr 1
    · have e : figs 9 (c :: r) = 0 := by simp [figs, hd]
      simp [err, step, hd, e]
/-- behind m figures -/
def tailE (m : Nat) (l : List Nat) : Option Nat :=
  if l[0]? = some 46 ∧ m ≤ 5 then (decE (l.drop 1)).map (· + 1)
  else if l[0]? = some 117 ∧ 0 < m then (if 1 < l.length then some 1 else none)
  else if l[0]? = some 112 ∧ 1 ≤ m ∧ m ≤ 5 then ptE l
  else some 0
theorem tail_cons {m c : Nat} {r : List Nat} (hd : isDig c = false) (h1 : 1 ≤ m) (h2 : m ≤ 10) : err (.d m) (c :: r) = tailE m (c :: r) := by
  unfold tailE
  simp only [err, step, hd, Bool.false_eq_true, if_false, List.getElem?_cons_zero, Option.some.injEq, List.drop_succ_cons, List.drop_zero, List.length_cons]
  by_cases c46 : c = 46
  · subst c46
    by_cases h5 : m ≤ 5
    · simp [h5, err_dot]
    · simp [h5]
  · by_cases c117 : c = 117
    · subst c117
      simp only [c46, if_false, if_true, err_u, false_and, true_and, if_pos (show 0 < m by omega)]
      cases r <;> simp
    · by_cases c112 : c = 112
      · subst c112
        by_cases h5 : m ≤ 5
        · simp only [c46, c117, if_false, if_true, h5, false_and, true_and, and_true, if_pos h1]
          exact err_pE r
        · simp [h5]
      · simp [c46, c117, c112]
theorem tail_nil (m : Nat) : tailE m [] = some 0 := by simp [tailE]
theorem err_d (l : List Nat) : ∀ n, 1 ≤ n → n ≤ 10 → err (.d n) l = (tailE (n + figs (10 - n) l) (l.drop (figs (10 - n) l))).map (· + figs (10 - n) l) := by
  induction l with
  | nil =>
    intro n h1 h2
    have e : figs (10 - n) ([] : List Nat) = 0 := by cases (10 - n) <;> rfl
    rw [e, List.drop_nil, tail_nil]
    rfl
  | cons c r ih =>
    intro n h1 h2
    by_cases hd : isDig c = true
    · by_cases hn : n < 10
      · have e : 10 - n = (10 - (n + 1)) + 1 := by omega
        have e2 : figs (10 - n) (c :: r) = figs (10 - (n + 1)) r + 1 := by rw [e]; simp [figs, hd]
        simp only [err, step, hd, if_true, hn]
        rw [ih (n + 1) (by omega) (by omega), e2, List.drop_succ_cons, Option.map_map]
        have e3 : n + 1 + figs (10 - (n + 1)) r = n + (figs (10 - (n + 1)) r + 1) := by omega
        rw [e3]
        congr 1
      · have e : 10 - n = 0 := by omega
        have n46 : c ≠ 46 := by rintro rfl; cases hd
        have n117 : c ≠ 117 := by rintro rfl; cases hd
        have n112 : c ≠ 112 := by rintro rfl; cases hd
        simp only [err, step, hd, if_true, hn, if_false, e, figs, List.drop_zero]
        unfold tailE
        simp [n46, n117, n112]
    · have hd' : isDig c = false := by simpa using hd
      have e2 : figs (10 - n) (c :: r) = 0 := by
        cases h : (10 - n) with
        | zero => rfl
        | succ k => simp [figs, hd]
      rw [e2, List.drop_zero, Nat.add_zero]
      simp only [Nat.add_zero, Option.map_id']
      exact tail_cons hd' h1 h2
/-- without its sign -/
def restE (l : List Nat) : Option Nat := (tailE (figs 10 l) (l.drop (figs 10 l))).map (· + figs 10 l)
theorem err_s1 (l : List Nat) : err .s1 l = restE l := by
  unfold restE
  cases l with
  | nil => simp [err, fin, figs, tail_nil]
  | cons c r =>
    by_cases hd : isDig c = true
    · have e : figs 10 (c :: r) = figs 9 r + 1 := by simp [figs, hd]
      simp only [err, step, hd, if_true]
      rw [err_d r 1 (by omega) (by omega), e, List.drop_succ_cons, Option.map_map]
      have e3 : 1 + figs (10 - 1) r = figs 9 r + 1 := by
        show 1 + figs 9 r = figs 9 r + 1
        omega
      rw [e3]
      congr 1
    · have e : figs 10 (c :: r) = 0 := by simp [figs, hd]
      rw [e]
      by_cases h : c = 46
      · subst h
        simp [err, step, hd, tailE, err_dot]
        rfl
      · simp [err, step, hd, tailE, h]
theorem err_s0 (l : List Nat) : err .s0 l = if l.head? = some 45 then (restE (l.drop 1)).map (· + 1) else restE l := by
  cases l with
  | nil => simp [err, fin, restE, figs, tail_nil]
  | cons c r =>
    by_cases h : c = 45
    · subst h
      simp [err, step, err_s1]
    · rw [if_neg (by simpa using h), ← err_s1]
      simp [err, step, h]
theorem reqText_err (l : List Nat) : reqText l = err .s0 l := by
  rw [err_s0]
  have gen : ∀ st : Nat, (let m := figs 10 (l.drop st); let h := st + m
      if l[h]? = some 46 ∧ m ≤ 5 then reqDec l (h + 1)
      else if l[h]? = some 117 ∧ 0 < m then (if h + 1 < l.length then some (h + 1) else none)
      else if l[h]? = some 112 ∧ 1 ≤ m ∧ m ≤ 5 then reqPoints l h
      else some h) = (restE (l.drop st)).map (st + ·) := by
    intro st
    simp only
    generalize hm : figs 10 (l.drop st) = m
    unfold restE tailE
    rw [hm, List.drop_drop]
    simp only [List.getElem?_drop, List.length_drop, Nat.add_zero, List.drop_drop]
    by_cases c1 : l[st + m]? = some 46 ∧ m ≤ 5
    · rw [if_pos c1, if_pos c1, reqDec_decE, Option.map_map, Option.map_map]
      congr 1
      funext x
      simp
      omega
    · rw [if_neg c1, if_neg c1]
      by_cases c2 : l[st + m]? = some 117 ∧ 0 < m
      · rw [if_pos c2, if_pos c2]
        by_cases c3 : st + m + 1 < l.length
        · rw [if_pos c3, if_pos (by omega)]
          simp
          omega
        · rw [if_neg c3, if_neg (by omega)]
          rfl
      · rw [if_neg c2, if_neg c2]
        by_cases c3 : l[st + m]? = some 112 ∧ 1 ≤ m ∧ m ≤ 5
        · rw [if_pos c3, if_pos c3, reqPoints_ptE, Option.map_map]
          congr 1
          funext x
          simp
          omega
        · rw [if_neg c3, if_neg c3]
          simp
  unfold reqText
  by_cases h : l.head? = some 45
  · simp only [h, if_true]
    rw [gen 1]
    congr 1
    funext x
    omega
  · simp only [h, if_false]
    rw [gen 0]
    simp
/-! ### the law's own look -/
def begun (l : List Nat) : Bool :=
  let r := if l.take 1 = [45] then l.drop 1 else l
  let tail := r.dropWhile isDig
  let many := r.length - tail.length
  if tail = [] then decide (many ≤ 10) else if tail = [117] then decide (1 ≤ many ∧ many ≤ 10) else if tail = [112] ∨ tail = [112, 116] then decide (1 ≤ many ∧ many ≤ 5)
  else if tail.head? ≠ some 46 ∨ 5 < many then false
  else let last := (tail.drop 1).dropWhile isDig
    let dec := tail.length - 1 - last.length
    if last = [] then decide (dec ≤ 9) else decide ((last = [112] ∨ last = [112, 116]) ∧ 1 ≤ dec ∧ dec ≤ 9)
theorem run_e : ∀ (ds : List Nat) (n : Nat) (t : List Nat), (∀ c ∈ ds, isDig c = true) → n ≤ 9 → run (.e n) (ds ++ t) = if n + ds.length ≤ 9 then run (.e (n + ds.length)) t else none
  | [], n, t, _, h => by simp [h]
  | c :: ds, n, t, hd, h => by
    have hc := hd c (by simp)
    by_cases hn : n < 9
    · have ih := run_e ds (n + 1) t (fun x hx => hd x (by simp [hx])) (by omega)
      simp only [List.cons_append, run, step, hc, if_true, hn, ih, List.length_cons]
      have e : n + 1 + ds.length = n + (ds.length + 1) := by omega
      rw [e]
    · simp only [List.cons_append, run, step, hc, if_true, hn, if_false, List.length_cons]
      rw [if_neg (by omega)]
theorem run_d : ∀ (ds : List Nat) (n : Nat) (t : List Nat), (∀ c ∈ ds, isDig c = true) → n ≤ 10 → run (.d n) (ds ++ t) = if n + ds.length ≤ 10 then run (.d (n + ds.length)) t else none
  | [], n, t, _, h => by simp [h]
  | c :: ds, n, t, hd, h => by
    have hc := hd c (by simp)
    by_cases hn : n < 10
    · have ih := run_d ds (n + 1) t (fun x hx => hd x (by simp [hx])) (by omega)
      simp only [List.cons_append, run, step, hc, if_true, hn, ih, List.length_cons]
      have e : n + 1 + ds.length = n + (ds.length + 1) := by omega
      rw [e]
    · simp only [List.cons_append, run, step, hc, if_true, hn, if_false, List.length_cons]
      rw [if_neg (by omega)]
theorem run_u (l : List Nat) : (run .u l).isSome = decide (l = []) := by cases l <;> simp [run, step]
theorem run_pt (l : List Nat) : (run .pt l).isSome = decide (l = []) := by cases l <;> simp [run, step]
theorem run_p (l : List Nat) : (run .p l).isSome = decide (l = [] ∨ l = [116]) := by
  cases l with
  | nil => simp [run]
  | cons c r =>
    by_cases h : c = 116
    · subst h
      simp only [run, step, if_true, run_pt]
      simp
    · simp [run, step, h]
theorem split_dig (r : List Nat) : ∃ ds t, r = ds ++ t ∧ (∀ c ∈ ds, isDig c = true) ∧ r.dropWhile isDig = t ∧ (∀ c, t.head? = some c → isDig c = false) := by
  refine ⟨r.takeWhile isDig, r.dropWhile isDig, (List.takeWhile_append_dropWhile).symm, fun c hc => ?_, rfl, fun c hc => ?_⟩
  · exact List.all_eq_true.mp (List.all_takeWhile (l := r) (p := isDig)) c hc
  · induction r with
    | nil => simp at hc
    | cons a r ih =>
      rw [List.dropWhile_cons] at hc
      by_cases ha : isDig a = true
      · rw [if_pos ha] at hc
        exact ih hc
      · rw [if_neg ha] at hc
        simp at hc
        subst hc
        simpa using ha
/-- alive behind the figures -/
def aliveT (m : Nat) (t : List Nat) : Bool :=
  if t = [] then decide (m ≤ 10) else if t = [117] then decide (1 ≤ m ∧ m ≤ 10) else if t = [112] ∨ t = [112, 116] then decide (1 ≤ m ∧ m ≤ 5)
  else if t.head? ≠ some 46 ∨ 5 < m then false
  else let last := (t.drop 1).dropWhile isDig
    let dec := t.length - 1 - last.length
    if last = [] then decide (dec ≤ 9) else decide ((last = [112] ∨ last = [112, 116]) ∧ 1 ≤ dec ∧ dec ≤ 9)
theorem run_dot (l : List Nat) : (run .dot l).isSome = (let last := l.dropWhile isDig; let dec := l.length - last.length; if last = [] then decide (dec ≤ 9) else decide ((last = [112] ∨ last = [112, 116]) ∧ 1 ≤ dec ∧ dec ≤ 9)) := by
  obtain ⟨ds, t, rfl, hd, ht, hh⟩ := split_dig l
  simp only [ht]
  have e : (ds ++ t).length - t.length = ds.length := by simp
  rw [e]
  cases ds with
  | nil =>
    cases t with
    | nil => simp [run]
    | cons c r =>
      have := hh c rfl
      simp [run, step, this]
  | cons c ds =>
    have hc := hd c (by simp)
    have r1 : run .dot ((c :: ds) ++ t) = run (.e 1) (ds ++ t) := by simp [run, step, hc]
    rw [r1, run_e ds 1 t (fun x hx => hd x (by simp [hx])) (by omega)]
    simp only [List.length_cons]
    by_cases h9 : 1 + ds.length ≤ 9
    · rw [if_pos h9]
      have h9' : ds.length + 1 ≤ 9 := by omega
      cases t with
      | nil => simp [run, h9']
      | cons a r =>
        have ha := hh a rfl
        simp only [run, step, ha, Bool.false_eq_true, if_false]
        by_cases h : a = 112
        · subst h
          simp only [if_true, run_p]
          simp [h9']
        · simp [h]
    · rw [if_neg h9]
      have h9' : ¬ ds.length + 1 ≤ 9 := by omega
      cases t <;> simp [h9']
theorem alive_d {m : Nat} {t : List Nat} (h1 : 1 ≤ m) (h2 : m ≤ 10) (hh : ∀ c, t.head? = some c → isDig c = false) : (run (.d m) t).isSome = aliveT m t := by
  unfold aliveT
  cases t with
  | nil => simp [run, h2]
  | cons c r =>
    have hc := hh c rfl
    simp only [run, step, hc, Bool.false_eq_true, if_false]
    by_cases c46 : c = 46
    · subst c46
      by_cases h5 : m ≤ 5
      · have h5' : ¬ 5 < m := by omega
        simp only [if_true, h5, run_dot]
        simp [h5']
      · have h5' : 5 < m := by omega
        simp [h5, h5']
    · by_cases c117 : c = 117
      · subst c117
        simp only [c46, if_false, if_true, run_u]
        cases r <;> simp [h1, h2]
      · by_cases c112 : c = 112
        · subst c112
          by_cases h5 : m ≤ 5
          · simp only [c46, c117, if_false, if_true, h5, run_p]
            by_cases hr : r = [] ∨ r = [116]
            · simp [hr, h1, h5]
            · simp [hr]
          · simp only [c46, c117, if_false, if_true, h5]
            by_cases hr : r = [] ∨ r = [116]
            · simp [hr, h5]
            · simp [hr]
        · simp [c46, c117, c112]
theorem alive_s1 {t : List Nat} (hh : ∀ c, t.head? = some c → isDig c = false) : (run .s1 t).isSome = aliveT 0 t := by
  unfold aliveT
  cases t with
  | nil => simp [run]
  | cons c r =>
    have hc := hh c rfl
    simp only [run, step, hc, Bool.false_eq_true, if_false]
    by_cases c46 : c = 46
    · subst c46
      simp only [if_true, run_dot]
      simp
    · by_cases c117 : c = 117
      · subst c117
        cases r <;> simp
      · by_cases c112 : c = 112
        · subst c112
          by_cases hr : r = [] ∨ r = [116]
          · simp [hr]
          · simp [hr]
        · simp [c46, c117, c112]
theorem alive_rest (r : List Nat) : (run .s1 r).isSome = aliveT (r.length - (r.dropWhile isDig).length) (r.dropWhile isDig) := by
  obtain ⟨ds, t, rfl, hd, ht, hh⟩ := split_dig r
  rw [ht]
  have e : (ds ++ t).length - t.length = ds.length := by simp
  rw [e]
  cases ds with
  | nil => exact alive_s1 hh
  | cons c ds =>
    have hc := hd c (by simp)
    have r1 : run .s1 ((c :: ds) ++ t) = run (.d 1) (ds ++ t) := by simp [run, step, hc]
    rw [r1, run_d ds 1 t (fun x hx => hd x (by simp [hx])) (by omega), List.length_cons]
    by_cases h10 : 1 + ds.length ≤ 10
    · rw [if_pos h10, Nat.add_comm]
      exact alive_d (by omega) (by omega) hh
    · rw [if_neg h10]
      unfold aliveT
      have a1 : ¬ ds.length + 1 ≤ 10 := by omega
      have a2 : ¬ ds.length + 1 ≤ 5 := by omega
      have a3 : 5 < ds.length + 1 := by omega
      simp [a1, a2, a3]
theorem begun_run (l : List Nat) : begun l = (run .s0 l).isSome := by
  have e : begun l = aliveT ((if l.take 1 = [45] then l.drop 1 else l).length - ((if l.take 1 = [45] then l.drop 1 else l).dropWhile isDig).length) ((if l.take 1 = [45] then l.drop 1 else l).dropWhile isDig) := rfl
  rw [e, ← alive_rest]
  cases l with
  | nil => simp [run]
  | cons c r =>
    by_cases h : c = 45
    · subst h
      simp [run, step]
    · have : ¬ ((c :: r).take 1 = [45]) := by simpa using h
      rw [if_neg this]
      simp [run, step, h]
/-- the first index at which the text can't go on -/
theorem err_alive (l : List Nat) : ∀ s, match err s l with
    | none => (run s l).isSome = true ∧ ∀ i, (run s (l.take i)).isSome = true
    | some k => k ≤ l.length ∧ (∀ i, (run s (l.take i)).isSome = true ↔ (i ≤ k ∨ k = l.length)) := by
  induction l with
  | nil =>
    intro s
    unfold err
    by_cases h : fin s = true
    · simp [h, run]
    · simp [h, run]
  | cons c r ih =>
    intro s
    unfold err
    cases hs : step s c with
    | none =>
      refine ⟨by simp, fun i => ?_⟩
      cases i with
      | zero => simp [run]
      | succ i => simp [run, hs]
    | some s' =>
      have := ih s'
      cases he : err s' r with
      | none =>
        rw [he] at this
        simp only [he, Option.map_none]
        refine ⟨by simp [run, hs, this.1], fun i => ?_⟩
        cases i with
        | zero => simp [run]
        | succ i => simp [run, hs, this.2 i]
      | some k =>
        rw [he] at this
        simp only [he, Option.map_some]
        have t1 := this.1
        refine ⟨by simp; omega, fun i => ?_⟩
        cases i with
        | zero => simp [run]
        | succ i =>
          have := this.2 i
          simp [run, hs, this]
end Len

/-! ## Texts of lengths: what they tell -/
namespace Len
open Pw PySem
abbrev dv : List Nat → Nat := NumText.digitsVal
def rnd (a b : Int) : Int := if 0 ≤ a then (2 * ab a + b) / (2 * b) else -((2 * ab a + b) / (2 * b))
theorem rnd_one (n : Nat) : rnd (n : Int) 1 = n := by
  unfold rnd ab
  rw [if_pos (by omega), if_neg (by omega)]
  omega
theorem rnd_nonneg {a b : Int} (h : 0 ≤ a) (hb : 0 < b) : 0 ≤ rnd a b := by
  unfold rnd
  rw [if_pos h]
  exact Int.ediv_nonneg (by have := ab_nonneg a; omega) (by omega)
def digs (l : List Nat) : Prop := ∀ c ∈ l, isDig c = true
/-- a text of a length without its sign -/
inductive Shp : List Nat → Prop
  | u (ds : List Nat) : digs ds → 1 ≤ ds.length → ds.length ≤ 10 → Shp (ds ++ [117])
  | p (ds : List Nat) : digs ds → 1 ≤ ds.length → ds.length ≤ 5 → Shp (ds ++ [112, 116])
  | d (ds es : List Nat) : digs ds → ds.length ≤ 5 → digs es → 1 ≤ es.length → es.length ≤ 9 → Shp (ds ++ 46 :: (es ++ [112, 116]))
theorem none_pt {l : List Nat} (h : err .pt l = none) : l = [] := by
  cases l with
  | nil => rfl
  | cons c r => simp [err, step] at h
theorem none_u {l : List Nat} (h : err .u l = none) : l = [] := by
  cases l with
  | nil => rfl
  | cons c r => simp [err, step] at h
theorem none_p {l : List Nat} (h : err .p l = none) : l = [116] := by
  cases l with
  | nil => simp [err, fin] at h
  | cons c r =>
    by_cases hc : c = 116
    · subst hc
      simp [err, step] at h
      rw [none_pt h]
    · simp [err, step, hc] at h
theorem none_e : ∀ (l : List Nat) (n : Nat), n ≤ 9 → err (.e n) l = none → ∃ es, l = es ++ [112, 116] ∧ digs es ∧ n + es.length ≤ 9
  | [], n, _, h => by simp [err, fin] at h
  | c :: r, n, hn, h => by
    by_cases hd : isDig c = true
    · by_cases h9 : n < 9
      · simp [err, step, hd, h9] at h
        obtain ⟨es, e, d, b⟩ := none_e r (n + 1) (by omega) h
        refine ⟨c :: es, by rw [e]; rfl, ?_, by simp; omega⟩
        intro x hx
        rcases List.mem_cons.mp hx with rfl | hx
        · exact hd
        · exact d x hx
      · simp [err, step, hd, h9] at h
    · by_cases hc : c = 112
      · subst hc
        simp [err, step, hd] at h
        rw [none_p h]
        exact ⟨[], rfl, fun x hx => by (cases hx), by simpa using hn⟩
      · simp [err, step, hd, hc] at h
theorem none_dot {l : List Nat} (h : err .dot l = none) : ∃ es, l = es ++ [112, 116] ∧ digs es ∧ 1 ≤ es.length ∧ es.length ≤ 9 := by
  cases l with
  | nil => simp [err, fin] at h
  | cons c r =>
    by_cases hd : isDig c = true
    · simp [err, step, hd] at h
      obtain ⟨es, e, d, b⟩ := none_e r 1 (by omega) h
      refine ⟨c :: es, by rw [e]; rfl, ?_, by simp, by simp; omega⟩
      intro x hx
      rcases List.mem_cons.mp hx with rfl | hx
      · exact hd
      · exact d x hx
    · simp [err, step, hd] at h
theorem none_d : ∀ (l : List Nat) (ds : List Nat), digs ds → 1 ≤ ds.length → ds.length ≤ 10 → err (.d ds.length) l = none → Shp (ds ++ l)
  | [], ds, _, _, _, h => by simp [err, fin] at h
  | c :: r, ds, hds, h1, h10, h => by
    by_cases hd : isDig c = true
    · by_cases hn : ds.length < 10
      · simp [err, step, hd, hn] at h
        have := none_d r (ds ++ [c]) (by
          intro x hx
          rcases List.mem_append.mp hx with hx | hx
          · exact hds x hx
          · simp at hx; subst hx; exact hd) (by simp) (by simp; omega) (by simpa using h)
        rw [List.append_assoc] at this
        exact this
      · simp [err, step, hd, hn] at h
    · by_cases h46 : c = 46
      · subst h46
        by_cases h5 : ds.length ≤ 5
        · simp [err, step, hd, h5] at h
          obtain ⟨es, e, d, b1, b2⟩ := none_dot h
          rw [e]
          exact .d ds es hds h5 d b1 b2
        · simp [err, step, hd, h5] at h
      · by_cases h117 : c = 117
        · subst h117
          simp [err, step, hd] at h
          rw [none_u h]
          exact .u ds hds h1 h10
        · by_cases h112 : c = 112
          · subst h112
            by_cases h5 : ds.length ≤ 5
            · simp [err, step, hd, h5] at h
              rw [none_p h]
              exact .p ds hds h1 h5
            · simp [err, step, hd, h5] at h
          · simp [err, step, hd, h46, h117, h112] at h
theorem none_s1 {l : List Nat} (h : err .s1 l = none) : Shp l := by
  cases l with
  | nil => simp [err, fin] at h
  | cons c r =>
    by_cases hd : isDig c = true
    · simp [err, step, hd] at h
      exact none_d r [c] (by intro x hx; simp at hx; subst hx; exact hd) (by simp) (by simp) h
    · by_cases h46 : c = 46
      · subst h46
        simp [err, step, hd] at h
        obtain ⟨es, e, d, b1, b2⟩ := none_dot h
        rw [e]
        exact .d [] es (by intro x hx; cases hx) (by simp) d b1 b2
      · simp [err, step, hd, h46] at h
/-- the rest behind the sign -/
def body (l : List Nat) : List Nat := if l.head? = some 45 then l.drop 1 else l
theorem none_s0 {l : List Nat} (h : err .s0 l = none) : Shp (body l) := by
  unfold body
  cases l with
  | nil => simp [err, fin] at h
  | cons c r =>
    by_cases h45 : c = 45
    · subst h45
      simp [err, step] at h
      simpa using none_s1 h
    · have e : err .s1 (c :: r) = err .s0 (c :: r) := by simp [err, step, h45]
      rw [if_neg (by simpa using h45)]
      exact none_s1 (e.trans h)
/-! ### texts that might go on -/
theorem err_run : ∀ (l : List Nat) (s : Sta), err s l = some l.length → ∃ t, run s l = some t ∧ fin t = false
  | [], s, h => by
    refine ⟨s, rfl, ?_⟩
    cases hf : fin s
    · rfl
    · simp [err, hf] at h
  | c :: r, s, h => by
    unfold err at h
    unfold run
    cases hs : step s c with
    | none => rw [hs] at h; simp at h
    | some t =>
      rw [hs] at h
      have h2 : err t r = some r.length := by
        cases he : err t r with
        | none => simp [he] at h
        | some k => simp [he] at h; simp [h]
      exact err_run r t h2
theorem run_snoc : ∀ (l : List Nat) (s : Sta) (c : Nat), run s (l ++ [c]) = match run s l with
    | some t => step t c
    | none => none
  | [], s, c => by
    simp only [List.nil_append, run]
    cases step s c <;> rfl
  | a :: l, s, c => by
    simp only [List.cons_append, run]
    cases step s a with
    | none => rfl
    | some t => exact run_snoc l t c
theorem step117 {s t : Sta} (h : step s 117 = some t) : fin t = true := by
  cases s <;> simp [step, isDig] at h <;> first | (subst h; rfl) | skip
theorem step116 {s t : Sta} (h : step s 116 = some t) : fin t = true := by
  cases s <;> simp [step, isDig] at h <;> first | (subst h; rfl) | skip
theorem open_last {l : List Nat} (h : err .s0 l = some l.length) {p : List Nat} {c : Nat} (e : l = p ++ [c]) : c ≠ 117 ∧ c ≠ 116 := by
  obtain ⟨t, h1, h2⟩ := err_run l .s0 h
  rw [e, run_snoc] at h1
  cases hr : run .s0 p with
  | none => rw [hr] at h1; cases h1
  | some s =>
    rw [hr] at h1
    constructor
    · rintro rfl
      rw [step117 h1] at h2
      cases h2
    · rintro rfl
      rw [step116 h1] at h2
      cases h2
/-! ### the number of units -/
def pts (n : List Nat) : Int := rnd ((dv (n.takeWhile (· != 46) ++ (n.dropWhile (· != 46)).drop 1) : Nat) * 65536) (10 ^ ((n.dropWhile (· != 46)).drop 1).length)
def units (w : List Nat) : Int := if w.getLast? = some 117 then (dv w.dropLast : Nat) else pts (w.take (w.length - 2))
theorem dig46 {c : Nat} (h : isDig c = true) : c ≠ 46 := by rintro rfl; cases h
theorem tw_dig {ds t : List Nat} (h : digs ds) : (ds ++ t).takeWhile (· != 46) = ds ++ t.takeWhile (· != 46) ∧ (ds ++ t).dropWhile (· != 46) = t.dropWhile (· != 46) := by
  induction ds with
  | nil => simp
  | cons c r ih =>
    have hc := dig46 (h c (by simp))
    have := ih (fun x hx => h x (by simp [hx]))
    simp [hc, this]
theorem pts_p {ds : List Nat} (h : digs ds) : pts ds = (dv ds : Int) * 65536 := by
  have := tw_dig (t := []) h
  simp only [List.append_nil, List.takeWhile_nil, List.dropWhile_nil] at this
  unfold pts
  rw [this.1, this.2]
  simp only [List.drop_nil, List.append_nil, List.length_nil, Int.pow_zero]
  exact rnd_one (dv ds * 65536)
theorem pts_d {ds es : List Nat} (h : digs ds) : pts (ds ++ 46 :: es) = rnd ((dv (ds ++ es) : Nat) * 65536) (10 ^ es.length) := by
  have := tw_dig (t := 46 :: es) h
  unfold pts
  rw [this.1, this.2]
  simp
theorem units_u {ds : List Nat} : units (ds ++ [117]) = (dv ds : Int) := by simp [units]
theorem units_pt {n : List Nat} : units (n ++ [112, 116]) = pts n := by
  unfold units
  have : (n ++ [112, 116]).getLast? = some 116 := by simp
  rw [this, if_neg (by decide)]
  congr 1
  simp
theorem units_nonneg (w : List Nat) : 0 ≤ units w := by
  unfold units
  split
  · omega
  · unfold pts
    exact rnd_nonneg (by omega) (Int.pow_pos (by decide))
/-- what a text tells -/
inductive Out where
  | parse (k : Nat) | big | ok (i : Int)
  deriving DecidableEq
def due (l : List Nat) : Out := match err .s0 l with
  | some k => .parse k
  | none => if units (body l) ≤ 1073741823 then .ok (if l.head? = some 45 then -units (body l) else units (body l)) else .big
/-! ### digits of 10 ^ k -/
theorem dv_zeros (k : Nat) : dv (49 :: List.replicate k 48) = 10 ^ k := by
  induction k with
  | zero => rfl
  | succ k ih =>
    have e : (49 :: List.replicate (k + 1) 48) = (49 :: List.replicate k 48) ++ [48] := by
      rw [List.replicate_succ', List.cons_append]
    rw [e]
    show NumText.digitsVal _ = _
    rw [NumText.digitsVal_snoc, show NumText.digitsVal (49 :: List.replicate k 48) = 10 ^ k from ih]
    rw [Nat.pow_succ]
    omega
theorem digs_all {l : List Nat} (h : digs l) : l.all (fun c => decide (48 ≤ c) && decide (c ≤ 57)) = true := by
  rw [List.all_eq_true]
  intro c hc
  have := h c hc
  unfold isDig at this
  have := of_decide_eq_true this
  simp [this]
theorem digs_app {l m : List Nat} (h : digs l) (h2 : digs m) : digs (l ++ m) := by
  intro x hx
  rcases List.mem_append.mp hx with hx | hx
  · exact h x hx
  · exact h2 x hx
theorem digs_cons {c : Nat} {l : List Nat} (hc : isDig c = true) (h : digs l) : digs (c :: l) := by
  intro x hx
  rcases List.mem_cons.mp hx with rfl | hx
  · exact hc
  · exact h x hx
theorem digs_zeros (k : Nat) : digs (List.replicate k 48) := by
  intro x hx
  rw [List.eq_of_mem_replicate hx]
  rfl
end Len

namespace K00
open PySem PySem.Spec PyProof.Rows L2 Pw
local macro_rules | `(tactic| walk_at "rd1") => `(tactic| first
  | with_reducible refine w_asg ?_ | with_reducible refine w_name ?_ | with_reducible refine w_gsub ?_ | with_reducible refine w_ifS ?_ | with_reducible refine w_ret ?_ | with_reducible refine w_drop ?_ | with_reducible refine w_bm ?_ | with_reducible refine w_for ?_ | with_reducible refine w_rng1 ?_ | with_reducible refine w_rng2 ?_ | with_reducible refine w_iList ?_ | with_reducible refine w_iTup ?_ | with_reducible refine w_par ?_ | with_reducible refine w_next ?_
  | with_reducible refine w_var rfl ?_ | with_reducible refine w_c ?_ | with_reducible refine w_op ?_ | with_reducible refine w_un ?_ | with_reducible refine w_rU ?_
  | with_reducible refine w_test ?_ | with_reducible refine w_tB ?_ | with_reducible refine w_bl ?_ | with_reducible refine w_and ?_ | with_reducible refine w_or ?_ | with_reducible refine w_not ?_
  | with_reducible refine w_andV ?_ | with_reducible refine w_orV ?_ | with_reducible refine w_notV ?_ | with_reducible refine w_ifE ?_ | with_reducible refine w_bV ?_
  | with_reducible refine w_nil ?_ | with_reducible refine w_cons ?_ | with_reducible refine w_CB ?_ | with_reducible refine w_callS ?_ | with_reducible refine w_tup ?_ | with_reducible refine w_lst ?_
  | with_reducible refine w_add_i ?_ | with_reducible refine w_sub ?_ | with_reducible refine w_mul_l (by decide) ?_ | with_reducible refine w_mul_r (by decide) ?_
  | with_reducible refine w_fdL (by decide) (by decide +kernel) ?_ | with_reducible refine w_mod (by decide) ?_ | with_reducible refine w_powL (by decide) (by decide) (by decide +kernel) ?_
  | with_reducible refine w_lt_i ?_ | with_reducible refine w_le_i ?_ | with_reducible refine w_gt_i ?_ | with_reducible refine w_ge_i ?_
  | with_reducible refine w_eq_i ?_ | with_reducible refine w_ne_i ?_ | with_reducible refine w_eq_S ?_ | with_reducible refine w_ne_S ?_ | with_reducible refine w_eq_s ?_ | with_reducible refine w_ne_s ?_ | with_reducible refine w_eq_is ?_ | with_reducible refine w_ne_is ?_ | with_reducible refine w_eq_si ?_ | with_reducible refine w_ne_si ?_ | with_reducible refine w_eq_b ?_ | with_reducible refine w_ne_b ?_
  | with_reducible refine w_isN ?_ | with_reducible refine w_isB ?_ | with_reducible refine w_isnotN ?_ | with_reducible refine w_isnotB ?_
  | with_reducible refine w_abs ?_ | with_reducible refine w_max2 ?_ | with_reducible refine w_min2 ?_ | with_reducible refine w_int_i ?_ | with_reducible refine w_int_b ?_
  | with_reducible refine w_sl ?_ | with_reducible refine w_part ?_ | with_reducible refine w_partN ?_ | with_reducible refine w_partV ?_ | with_reducible refine w_lc ?_ | with_reducible refine w_yes ?_ | with_reducible refine w_iAny ?_ | with_reducible refine w_tyS ?_ | with_reducible refine w_aug rfl ?_ | with_reducible refine w_ipI ?_ | with_reducible refine w_gCons ?_ | with_reducible refine w_gNil ?_ | with_reducible refine w_turn ?_ | with_reducible refine w_chain ?_ | with_reducible refine w_mkSup ?_ | with_reducible refine w_mkR ?_
  | with_reducible refine w_iteT ?_ | with_reducible refine w_iteF ?_ | with_reducible refine w_iteN ?_
  | with_reducible refine w_isi_int (by first | assumption | with_unfolding_all exact True.intro) ?_ | with_reducible refine w_isi_bool (by first | assumption | with_unfolding_all exact True.intro) ?_ | with_reducible refine w_isi_str (by first | assumption | with_unfolding_all exact True.intro) ?_
  | with_reducible refine w_iteDt rfl ?_
  | ((with_reducible refine w_iteG ?_); first | refine w_iteTe (by first | rfl | assumption) ?_ | refine w_iteFe (by first | rfl | assumption) ?_))
local macro_rules | `(tactic| walk_at "ro1") => `(tactic| first | walk_at "rd1" | with_reducible refine w_iteDt (by omega) ?_ | with_reducible refine w_iteDf (by omega) ?_)
local macro_rules | `(tactic| walk_at "ro") => `(tactic| repeat (first | with_reducible refine w_seq ?_ | walk_at "ro1"))
local macro_rules | `(tactic| walk_at "rx") => `(tactic| repeat walk_at "rd1")
local macro_rules | `(tactic| walk_at "rd") => `(tactic| repeat (first | with_reducible refine w_seq ?_ | walk_at "rd1"))
local macro_rules | `(tactic| walk_at "len") => `(tactic| ((try simp only [List.length_append, List.length_cons, List.length_nil, List.length_take, List.length_drop, List.length_map, List.length_replicate, List.length_range]); omega))
def top (i : Nat) : Stmt := PySem.Challenge.pw_pagewright_k00_lengths_of_texts.main.body.getD i (.Pass ⟨0, 0, 0, 0⟩)
def dfn (x : Str) (i : Nat) : He.DefD := ⟨(x, none), x, x, defArgs (top i), defBody (top i), defScope (top i), [], []⟩
def clsInit (st : Stmt) : Stmt := match st with
  | .ClassDef _ _ _ body .. => body.getD 0 (.Pass ⟨0, 0, 0, 0⟩)
  | _ => .Pass ⟨0, 0, 0, 0⟩
theorem sc_is_whole : FnScope ["value"] ["value"] (defScope (top 12)) := ⟨rfl, rfl, rfl, by decide +kernel, rfl, by decide +kernel, by decide +kernel⟩
theorem sc_is_length : FnScope ["value"] ["value"] (defScope (top 13)) := ⟨rfl, rfl, rfl, by decide +kernel, rfl, by decide +kernel, by decide +kernel⟩
theorem sc_tens : FnScope ["many"] ["many"] (defScope (top 14)) := ⟨rfl, rfl, rfl, by decide +kernel, rfl, by decide +kernel, by decide +kernel⟩
theorem sc_rounded : FnScope ["top", "bottom", "found"] ["top", "bottom"] (defScope (top 15)) := ⟨rfl, rfl, rfl, by decide +kernel, rfl, by decide +kernel, by decide +kernel⟩
theorem sc_figures_from : FnScope ["text", "start", "most", "here"] ["text", "start", "most"] (defScope (top 16)) := ⟨rfl, rfl, rfl, by decide +kernel, rfl, by decide +kernel, by decide +kernel⟩
theorem sc_require_points : FnScope ["text", "start", "here"] ["text", "start"] (defScope (top 17)) := ⟨rfl, rfl, rfl, by decide +kernel, rfl, by decide +kernel, by decide +kernel⟩
theorem sc_require_decimals : FnScope ["text", "start", "here"] ["text", "start"] (defScope (top 18)) := ⟨rfl, rfl, rfl, by decide +kernel, rfl, by decide +kernel, by decide +kernel⟩
theorem sc_require_length_text : FnScope ["text", "start", "here", "many"] ["text"] (defScope (top 19)) := ⟨rfl, rfl, rfl, by decide +kernel, rfl, by decide +kernel, by decide +kernel⟩
theorem sc_points_told : FnScope ["number", "whole", "point", "decimals"] ["number"] (defScope (top 20)) := ⟨rfl, rfl, rfl, by decide +kernel, rfl, by decide +kernel, by decide +kernel⟩
theorem sc_length_of : FnScope ["text", "number", "size"] ["text"] (defScope (top 21)) := ⟨rfl, rfl, rfl, by decide +kernel, rfl, by decide +kernel, by decide +kernel⟩
theorem sc__law_dice : FnScope ["_law_script", "_law_spot", "_law_cell", "_law_left"] ["_law_script", "_law_spot"] (defScope (top 23)) := ⟨rfl, rfl, rfl, by decide +kernel, rfl, by decide +kernel, by decide +kernel⟩
theorem sc__law_roll : FnScope ["_law_dice_here", "_law_total", "_law_found", "_law_one", "_law_two"] ["_law_dice_here", "_law_total"] (defScope (top 24)) := ⟨rfl, rfl, rfl, by decide +kernel, rfl, by decide +kernel, by decide +kernel⟩
theorem sc__law_pick : FnScope ["_law_dice_here", "_law_items"] ["_law_dice_here", "_law_items"] (defScope (top 25)) := ⟨rfl, rfl, rfl, by decide +kernel, rfl, by decide +kernel, by decide +kernel⟩
theorem sc__law_nearest : FnScope ["_law_number", "_law_by", "_law_found"] ["_law_number", "_law_by"] (defScope (top 26)) := ⟨rfl, rfl, rfl, by decide +kernel, rfl, by decide +kernel, by decide +kernel⟩
theorem sc__law_units_told : FnScope ["_law_word", "_law_digits_here"] ["_law_word"] (defScope (top 27)) := ⟨rfl, rfl, rfl, by decide +kernel, rfl, by decide +kernel, by decide +kernel⟩
theorem sc__law_points_told : FnScope ["_law_number", "_law_parts"] ["_law_number"] (defScope (top 28)) := ⟨rfl, rfl, rfl, by decide +kernel, rfl, by decide +kernel, by decide +kernel⟩
theorem sc__law_digits : FnScope ["_law_dice_here", "_law_least", "_law_most", "_law_many", "_law_turn"] ["_law_dice_here", "_law_least", "_law_most"] (defScope (top 29)) := ⟨rfl, rfl, rfl, by decide +kernel, rfl, by decide +kernel, by decide +kernel⟩
theorem sc__law_drawn_text : FnScope ["_law_dice_here", "_law_sign", "_law_way"] ["_law_dice_here"] (defScope (top 30)) := ⟨rfl, rfl, rfl, by decide +kernel, rfl, by decide +kernel, by decide +kernel⟩
theorem sc__law_bent : FnScope ["_law_dice_here", "_law_text", "_law_at", "_law_sign", "_law_way"] ["_law_dice_here", "_law_text"] (defScope (top 31)) := ⟨rfl, rfl, rfl, by decide +kernel, rfl, by decide +kernel, by decide +kernel⟩
theorem sc__law_is_begun : FnScope ["_law_text", "_law_rest", "_law_tail", "_law_many", "_law_last", "_law_decimals"] ["_law_text"] (defScope (top 32)) := ⟨rfl, rfl, rfl, by decide +kernel, rfl, by decide +kernel, by decide +kernel⟩
theorem sc__law_due : FnScope ["_law_text", "_law_index", "_law_units", "_law_found"] ["_law_text"] (defScope (top 33)) := ⟨rfl, rfl, rfl, by decide +kernel, rfl, by decide +kernel, by decide +kernel⟩
theorem sc__law_told : FnScope ["_law_text", "e"] ["_law_text"] (defScope (top 34)) := ⟨rfl, rfl, rfl, by decide +kernel, rfl, by decide +kernel, by decide +kernel⟩
theorem sc_law : FnScope ["_law_script", "_law_spot", "_law_dice_here", "_law_turn", "_law_text", "_law_some", "_law_odd", "_law_told_here", "_law_due_here", "_law_values", "_law_judged", "_law_value"] ["_law_script"] (defScope (top 35)) := ⟨rfl, rfl, rfl, by decide +kernel, rfl, by decide +kernel, by decide +kernel⟩
def fns : List He.DefD := [dfn "is_whole" 12, dfn "is_length" 13, dfn "tens" 14, dfn "rounded" 15, dfn "figures_from" 16, dfn "require_points" 17, dfn "require_decimals" 18, dfn "require_length_text" 19, dfn "points_told" 20, dfn "length_of" 21, dfn "_law_dice" 23, dfn "_law_roll" 24, dfn "_law_pick" 25, dfn "_law_nearest" 26, dfn "_law_units_told" 27, dfn "_law_points_told" 28, dfn "_law_digits" 29, dfn "_law_drawn_text" 30, dfn "_law_bent" 31, dfn "_law_is_begun" 32, dfn "_law_due" 33, dfn "_law_told" 34, dfn "law" 35]
def inis : List InitD := [⟨("ParseError", some "__init__"), "ParseError.__init__", defArgs (clsInit (top 3)), defBody (clsInit (top 3)), defScope (clsInit (top 3))⟩]
def fas : List He.Fa := [.glo "is_whole", .glo "is_length", .glo "tens", .glo "rounded", .glo "figures_from", .glo "require_points", .glo "require_decimals", .glo "require_length_text", .glo "points_told", .glo "length_of", .glo "_law_dice", .glo "_law_roll", .glo "_law_pick", .glo "_law_nearest", .glo "_law_units_told", .glo "_law_points_told", .glo "_law_digits", .glo "_law_drawn_text", .glo "_law_bent", .glo "_law_is_begun", .glo "_law_due", .glo "_law_told", .glo "law", .free "abs", .free "bool", .free "int", .free "isinstance", .free "len", .free "max", .free "min", .free "range", .free "repr", .free "str", .int "BOUND" (1000000000000000000000000000000000000000000000000000000000000), .int "MAX_LENGTH" (1073741823), .int "MOST_DECIMALS" (9), .int "MOST_UNITS" (10), .int "MOST_WHOLE" (5), .int "POINT" (65536), .str "FIGURES" "0123456789", .glo "InvalidLength", .glo "ParseError", .exc "InvalidLength", .exm "InvalidLength" "InvalidLength" true, .exm "InvalidLength" "ParseError" false, .exm "ParseError" "InvalidLength" false, .exm "ParseError" "ParseError" true]
def exs (K : PySem.W.Frag) : Bool := fas.all (fun f => f.ok K) && supB K PySem.Challenge.pw_pagewright_k00_lengths_of_texts.main.file "ParseError" "number" "ParseError.__init__" "ValueError" "ValueError.__new__" "ValueError.__init__" [.type "ValueError", .type "Exception", .type "BaseException", .type "object"]
structure Tx (P : Program) (K : PySem.W.Frag) (mg : Str → Option Value) : Prop where
  d_is_whole : Defd K "is_whole" (top 12)
  d_is_length : Defd K "is_length" (top 13)
  d_tens : Defd K "tens" (top 14)
  d_rounded : Defd K "rounded" (top 15)
  d_figures_from : Defd K "figures_from" (top 16)
  d_require_points : Defd K "require_points" (top 17)
  d_require_decimals : Defd K "require_decimals" (top 18)
  d_require_length_text : Defd K "require_length_text" (top 19)
  d_points_told : Defd K "points_told" (top 20)
  d_length_of : Defd K "length_of" (top 21)
  d__law_dice : Defd K "_law_dice" (top 23)
  d__law_roll : Defd K "_law_roll" (top 24)
  d__law_pick : Defd K "_law_pick" (top 25)
  d__law_nearest : Defd K "_law_nearest" (top 26)
  d__law_units_told : Defd K "_law_units_told" (top 27)
  d__law_points_told : Defd K "_law_points_told" (top 28)
  d__law_digits : Defd K "_law_digits" (top 29)
  d__law_drawn_text : Defd K "_law_drawn_text" (top 30)
  d__law_bent : Defd K "_law_bent" (top 31)
  d__law_is_begun : Defd K "_law_is_begun" (top 32)
  d__law_due : Defd K "_law_due" (top 33)
  d__law_told : Defd K "_law_told" (top 34)
  d_law : Defd K "law" (top 35)
  g_is_whole : mg "is_whole" = some (.ref (He.ga K "is_whole"))
  g_is_length : mg "is_length" = some (.ref (He.ga K "is_length"))
  g_tens : mg "tens" = some (.ref (He.ga K "tens"))
  g_rounded : mg "rounded" = some (.ref (He.ga K "rounded"))
  g_figures_from : mg "figures_from" = some (.ref (He.ga K "figures_from"))
  g_require_points : mg "require_points" = some (.ref (He.ga K "require_points"))
  g_require_decimals : mg "require_decimals" = some (.ref (He.ga K "require_decimals"))
  g_require_length_text : mg "require_length_text" = some (.ref (He.ga K "require_length_text"))
  g_points_told : mg "points_told" = some (.ref (He.ga K "points_told"))
  g_length_of : mg "length_of" = some (.ref (He.ga K "length_of"))
  g__law_dice : mg "_law_dice" = some (.ref (He.ga K "_law_dice"))
  g__law_roll : mg "_law_roll" = some (.ref (He.ga K "_law_roll"))
  g__law_pick : mg "_law_pick" = some (.ref (He.ga K "_law_pick"))
  g__law_nearest : mg "_law_nearest" = some (.ref (He.ga K "_law_nearest"))
  g__law_units_told : mg "_law_units_told" = some (.ref (He.ga K "_law_units_told"))
  g__law_points_told : mg "_law_points_told" = some (.ref (He.ga K "_law_points_told"))
  g__law_digits : mg "_law_digits" = some (.ref (He.ga K "_law_digits"))
  g__law_drawn_text : mg "_law_drawn_text" = some (.ref (He.ga K "_law_drawn_text"))
  g__law_bent : mg "_law_bent" = some (.ref (He.ga K "_law_bent"))
  g__law_is_begun : mg "_law_is_begun" = some (.ref (He.ga K "_law_is_begun"))
  g__law_due : mg "_law_due" = some (.ref (He.ga K "_law_due"))
  g__law_told : mg "_law_told" = some (.ref (He.ga K "_law_told"))
  g_law : mg "law" = some (.ref (He.ga K "law"))
  n_abs : mg "abs" = none
  n_bool : mg "bool" = none
  n_int : mg "int" = none
  n_isinstance : mg "isinstance" = none
  n_len : mg "len" = none
  n_max : mg "max" = none
  n_min : mg "min" = none
  n_range : mg "range" = none
  n_repr : mg "repr" = none
  n_str : mg "str" = none
  i_BOUND : ∃ t, mg "BOUND" = some (.int (1000000000000000000000000000000000000000000000000000000000000) t)
  i_MAX_LENGTH : ∃ t, mg "MAX_LENGTH" = some (.int (1073741823) t)
  i_MOST_DECIMALS : ∃ t, mg "MOST_DECIMALS" = some (.int (9) t)
  i_MOST_UNITS : ∃ t, mg "MOST_UNITS" = some (.int (10) t)
  i_MOST_WHOLE : ∃ t, mg "MOST_WHOLE" = some (.int (5) t)
  i_POINT : ∃ t, mg "POINT" = some (.int (65536) t)
  s_FIGURES : ∃ t, mg "FIGURES" = some (.str "0123456789" t)
  g_InvalidLength : mg "InvalidLength" = some (.ref (He.ga K "InvalidLength"))
  g_ParseError : mg "ParseError" = some (.ref (He.ga K "ParseError"))
  e_InvalidLength : PySem.W.excIn K (He.ga K "InvalidLength") He.veBase "ValueError.__new__" = true
  k_InvalidLength : PySem.W.keepIn K (.ref (He.ga K "InvalidLength")) = true
  b_InvalidLength : PySem.W.subIn K (.ref (He.ga K "InvalidLength")) (.type "BaseException") = some true
  t_InvalidLength : PySem.W.typeIn K (.ref (He.ga K "InvalidLength")) = some (.type "type")
  m_InvalidLength_InvalidLength : PySem.W.exmOne K (.ref (He.ga K "InvalidLength")) (.ref (He.ga K "InvalidLength")) = some true
  m_InvalidLength_ParseError : PySem.W.exmOne K (.ref (He.ga K "InvalidLength")) (.ref (He.ga K "ParseError")) = some false
  m_ParseError_InvalidLength : PySem.W.exmOne K (.ref (He.ga K "ParseError")) (.ref (He.ga K "InvalidLength")) = some false
  m_ParseError_ParseError : PySem.W.exmOne K (.ref (He.ga K "ParseError")) (.ref (He.ga K "ParseError")) = some true
  x_ParseError : SupC K P (He.ga K "ParseError") (He.ma K (He.ga K "ParseError") "__init__") "number" "ValueError" "ValueError.__new__" "ValueError.__init__" [.type "ValueError", .type "Exception", .type "BaseException", .type "object"]
  xf_ParseError : XfC K (He.ga K "ParseError")
  xn_ParseError : PySem.W.findIn K (.ref (He.ga K "ParseError")) "number" = some none
theorem tx_of {K : PySem.W.Frag} {h : Heap} {mg : Str → Option Value} (X : K.In h) (G : h.Ns mainGlobals mg) (cc : SaysP fns inis exs K) : Tx PySem.Challenge.pw_pagewright_k00_lengths_of_texts K mg := by
  have e := cc.ex_
  unfold exs at e
  simp only [Bool.and_eq_true] at e
  obtain ⟨e0, e1⟩ := e
  have c : ∀ (i : Nat) {f : He.Fa}, fas[i]? = some f → f.ok K = true := fun i f hi => List.all_eq_true.mp e0 f (List.mem_of_getElem? hi)
  have s0 := supC_of (prog := PySem.Challenge.pw_pagewright_k00_lengths_of_texts) (cc.ini_ 0 rfl) e1 (by rfl) (by decide +kernel) (by decide +kernel) (by decide +kernel) (by decide +kernel) (by decide +kernel) (fun _ _ _ _ _ _ _ _ _ _ _ _ => rfl) (by decide) (by decide)
  exact {
      d_is_whole := cc.def_ 0 rfl,
      d_is_length := cc.def_ 1 rfl,
      d_tens := cc.def_ 2 rfl,
      d_rounded := cc.def_ 3 rfl,
      d_figures_from := cc.def_ 4 rfl,
      d_require_points := cc.def_ 5 rfl,
      d_require_decimals := cc.def_ 6 rfl,
      d_require_length_text := cc.def_ 7 rfl,
      d_points_told := cc.def_ 8 rfl,
      d_length_of := cc.def_ 9 rfl,
      d__law_dice := cc.def_ 10 rfl,
      d__law_roll := cc.def_ 11 rfl,
      d__law_pick := cc.def_ 12 rfl,
      d__law_nearest := cc.def_ 13 rfl,
      d__law_units_told := cc.def_ 14 rfl,
      d__law_points_told := cc.def_ 15 rfl,
      d__law_digits := cc.def_ 16 rfl,
      d__law_drawn_text := cc.def_ 17 rfl,
      d__law_bent := cc.def_ 18 rfl,
      d__law_is_begun := cc.def_ 19 rfl,
      d__law_due := cc.def_ 20 rfl,
      d__law_told := cc.def_ 21 rfl,
      d_law := cc.def_ 22 rfl,
      g_is_whole := He.glo_ok X G (c 0 rfl),
      g_is_length := He.glo_ok X G (c 1 rfl),
      g_tens := He.glo_ok X G (c 2 rfl),
      g_rounded := He.glo_ok X G (c 3 rfl),
      g_figures_from := He.glo_ok X G (c 4 rfl),
      g_require_points := He.glo_ok X G (c 5 rfl),
      g_require_decimals := He.glo_ok X G (c 6 rfl),
      g_require_length_text := He.glo_ok X G (c 7 rfl),
      g_points_told := He.glo_ok X G (c 8 rfl),
      g_length_of := He.glo_ok X G (c 9 rfl),
      g__law_dice := He.glo_ok X G (c 10 rfl),
      g__law_roll := He.glo_ok X G (c 11 rfl),
      g__law_pick := He.glo_ok X G (c 12 rfl),
      g__law_nearest := He.glo_ok X G (c 13 rfl),
      g__law_units_told := He.glo_ok X G (c 14 rfl),
      g__law_points_told := He.glo_ok X G (c 15 rfl),
      g__law_digits := He.glo_ok X G (c 16 rfl),
      g__law_drawn_text := He.glo_ok X G (c 17 rfl),
      g__law_bent := He.glo_ok X G (c 18 rfl),
      g__law_is_begun := He.glo_ok X G (c 19 rfl),
      g__law_due := He.glo_ok X G (c 20 rfl),
      g__law_told := He.glo_ok X G (c 21 rfl),
      g_law := He.glo_ok X G (c 22 rfl),
      n_abs := He.free_ok X G (c 23 rfl),
      n_bool := He.free_ok X G (c 24 rfl),
      n_int := He.free_ok X G (c 25 rfl),
      n_isinstance := He.free_ok X G (c 26 rfl),
      n_len := He.free_ok X G (c 27 rfl),
      n_max := He.free_ok X G (c 28 rfl),
      n_min := He.free_ok X G (c 29 rfl),
      n_range := He.free_ok X G (c 30 rfl),
      n_repr := He.free_ok X G (c 31 rfl),
      n_str := He.free_ok X G (c 32 rfl),
      i_BOUND := He.int_ok X G (c 33 rfl),
      i_MAX_LENGTH := He.int_ok X G (c 34 rfl),
      i_MOST_DECIMALS := He.int_ok X G (c 35 rfl),
      i_MOST_UNITS := He.int_ok X G (c 36 rfl),
      i_MOST_WHOLE := He.int_ok X G (c 37 rfl),
      i_POINT := He.int_ok X G (c 38 rfl),
      s_FIGURES := He.str_ok X G (c 39 rfl),
      g_InvalidLength := He.glo_ok X G (c 40 rfl),
      g_ParseError := He.glo_ok X G (c 41 rfl),
      e_InvalidLength := (He.exc_ok (c 42 rfl)).1,
      k_InvalidLength := (He.exc_ok (c 42 rfl)).2.1,
      b_InvalidLength := (He.exc_ok (c 42 rfl)).2.2.1,
      t_InvalidLength := (He.exc_ok (c 42 rfl)).2.2.2,
      m_InvalidLength_InvalidLength := He.exm_ok (c 43 rfl),
      m_InvalidLength_ParseError := He.exm_ok (c 44 rfl),
      m_ParseError_InvalidLength := He.exm_ok (c 45 rfl),
      m_ParseError_ParseError := He.exm_ok (c 46 rfl),
      x_ParseError := s0.1,
      xf_ParseError := s0.2.2,
      xn_ParseError := s0.1.noN }
abbrev R : PySem.W.OpenRow := PySem.W.OpenLaw.row PySem.Challenge.rw_pagewright_k00_lengths_of_texts
abbrev hk : PySem.W.Hook := hookP 6 fns inis exs
def ob (s : PySem.W.SharedT) : AlP := obsPG 6 fns inis exs (HandSHeadRun.getT s)
theorem ob_eq (s : PySem.W.SharedT) : ob s = hk.obs s.abs := obsPG_eq (HandSHeadRun.getT_eq s)
def loose0 : List PySem.Str := ["PressError", "InvalidLength", "ParseError", "POINT", "MAX_LENGTH", "FIGURES", "MOST_WHOLE", "MOST_DECIMALS", "MOST_UNITS", "BOUND", "is_whole", "is_length", "tens", "rounded", "figures_from", "require_points", "require_decimals", "require_length_text", "points_told", "length_of", "_law_dice", "_law_roll", "_law_pick", "_law_nearest", "_law_units_told", "_law_points_told", "_law_digits", "_law_drawn_text", "_law_bent", "_law_is_begun", "_law_due", "_law_told"]
def loose : List PySem.Str := loose0
theorem run (w : World) : HandSHeadRun.RunEq R (PySem.W.view R.prog [35]) hk ob 4000 loose w := by
  intro os
  kernel_rfl
def isW : V → Bool
  | .int i => decide (ab i < 10 ^ 60)
  | _ => false
def isL : V → Bool
  | .int i => decide (ab i ≤ 1073741823)
  | _ => false
def sp_is_whole (K : PySem.W.Frag) : Sp := fun vs H Q _ => match vs with
  | [x] => Kd H x ∧ Q (.bl (isW x)) H
  | _ => False
theorem ok_is_whole {P : Program} {w : World} {K : PySem.W.Frag} {mg : Str → Option Value} {base : Heap} (T : Tx P K mg)  : Has P w K mg base 1 "is_whole" ["value"] (sp_is_whole K) := by
  refine Has.mk (k := 0) T.d_is_whole T.g_is_whole sc_is_whole (fun _ _ _ _ _ _ us hl => match us, hl with | [_], _ => rfl) (fun vs H Q E h => by rcases vs with _ | ⟨v0, _ | ⟨v1, rest1⟩⟩ <;> first | rfl | exact h.elim) (fun f cdv A outer s H vs Q E hr hgd h => have hu := hr.units; have hu66 := units66 hr; ⟨_, (pss_one (ps_ret (pe_and (pe_isi K T.n_isinstance (pv 0) (pe_ty (T := "int") T.n_int (by decide +kernel))) (pe_and (pe_not (pe_isi K T.n_isinstance (pv 0) (pe_ty (T := "bool") T.n_bool (by decide +kernel)))) (pe_one (pe_cmpR o_lt (pe_callB c_abs (by rfl) T.n_abs (by decide +kernel) (pa_cons (pv 0) pa_nil)) (pe_gint T.i_BOUND) (nomark _))))))), ?_⟩)
  rcases vs with _ | ⟨v0, _ | ⟨v1, rest1⟩⟩ <;> try exact h.elim
  rw [show L2.start ["value"] [v0] = [some v0] from rfl]
  try dsimp only [cx_K]
  obtain ⟨k, q⟩ := h
  walk_at "rd"
  cases v0 <;> first | exact k.elim | (walk_at "rd"; exact q)
def sp_is_length (K : PySem.W.Frag) : Sp := fun vs H Q _ => match vs with
  | [x] => Kd H x ∧ Q (.bl (isL x)) H
  | _ => False
theorem ok_is_length {P : Program} {w : World} {K : PySem.W.Frag} {mg : Str → Option Value} {base : Heap} (T : Tx P K mg) (h_is_whole : Has P w K mg base 1 "is_whole" ["value"] (sp_is_whole K)) : Has P w K mg base 2 "is_length" ["value"] (sp_is_length K) := by
  refine Has.mk (k := 1) T.d_is_length T.g_is_length sc_is_length (fun _ _ _ _ _ _ us hl => match us, hl with | [_], _ => rfl) (fun vs H Q E h => by rcases vs with _ | ⟨v0, _ | ⟨v1, rest1⟩⟩ <;> first | rfl | exact h.elim) (fun f cdv A outer s H vs Q E hr hgd h => have hu := hr.units; have hu66 := units66 hr; ⟨_, (pss_one (ps_ret (pe_and (pe_callH h_is_whole (hr.mono (by decide)) hgd (takes_of rfl rfl rfl rfl) (pa_cons (pv 0) pa_nil)) (pe_one (pe_cmpR o_le (pe_callB c_abs (by rfl) T.n_abs (by decide +kernel) (pa_cons (pv 0) pa_nil)) (pe_gint T.i_MAX_LENGTH) (nomark _)))))), ?_⟩)
  rcases vs with _ | ⟨v0, _ | ⟨v1, rest1⟩⟩ <;> try exact h.elim
  rw [show L2.start ["value"] [v0] = [some v0] from rfl]
  try dsimp only [cx_K]
  obtain ⟨k, q⟩ := h
  walk_at "rd"
  refine ⟨k, ?_⟩
  walk_at "rd"
  cases v0 <;> first | exact k.elim | (refine w_iteF ?_; exact q) | skip
  rename_i i
  refine w_iteD (fun h => ?_) (fun h => ?_)
  · walk_at "rd"
    exact q
  · have : isL (.int i) = false := by
      simp only [isL, decide_eq_false_iff_not]
      omega
    rw [this] at q
    exact q

open SX (S)
open Len
theorem in_figs (c : Nat) : decide (c ∈ [48, 49, 50, 51, 52, 53, 54, 55, 56, 57]) = isDig c := by
  unfold isDig
  rw [decide_eq_decide]
  simp only [List.mem_cons, List.not_mem_nil, or_false]
  omega
theorem figs_cons {m : Nat} {l : List Nat} {i : Nat} {c : Nat} (e : l[i]? = some c) : figs (m + 1) (l.drop i) = if isDig c = true then figs m (l.drop (i + 1)) + 1 else 0 := by
  have : l.drop i = c :: l.drop (i + 1) := by
    obtain ⟨h, e⟩ := List.getElem?_eq_some_iff.mp e
    rw [List.drop_eq_getElem_cons h, e]
  rw [this]
  rfl
theorem div_ok {a b : Int} (h : 0 < b) (h2 : b < 10 ^ 60) : CDivW a (2 * b) := wide_div (b := 201) (by omega) (by omega) (by decide) (by decide)
def sp_rounded (K : PySem.W.Frag) : Sp := fun vs H Q _ => match vs with
  | [x, y] => ∃ a b, x = .int a ∧ y = .int b ∧ 0 < b ∧ b < 10 ^ 60 ∧ Q (.int (rnd a b)) H
  | _ => False
theorem ok_rounded {P : Program} {w : World} {K : PySem.W.Frag} {mg : Str → Option Value} {base : Heap} (T : Tx P K mg)  : Has P w K mg base 1 "rounded" ["top", "bottom"] (sp_rounded K) := by
  refine Has.mk (k := 0) T.d_rounded T.g_rounded sc_rounded (fun _ _ _ _ _ _ us hl => match us, hl with | [_, _], _ => rfl) (fun vs H Q E h => by rcases vs with _ | ⟨v0, _ | ⟨v1, _ | ⟨v2, rest2⟩⟩⟩ <;> first | rfl | exact h.elim) (fun f cdv A outer s H vs Q E hr hgd h => have hu := hr.units; have hu66 := units66 hr; ⟨_, (pss_cons (ps_set (i := 2) sc_rounded.nd rfl (.inl rfl) (pe_op o_fd (pe_op (o_add K) (pe_op o_mul pe_int (pe_callB c_abs (by rfl) T.n_abs (by decide +kernel) (pa_cons (pv 0) pa_nil))) (pv 1)) (pe_op o_mul pe_int (pv 1)))) (pss_one (ps_ret (pe_ifExp (pt_cmpR o_ge (pv 0) pe_int (nomark _)) (pv 2) (pe_un un_neg (pv 2)))))), ?_⟩)
  rcases vs with _ | ⟨v0, _ | ⟨v1, _ | ⟨v2, rest2⟩⟩⟩ <;> try exact h.elim
  rw [show L2.start ["top", "bottom", "found"] [v0, v1] = [some v0, some v1, none] from rfl]
  try dsimp only [cx_K]
  obtain ⟨a, b, rfl, rfl, h1, h2, q⟩ := h
  walk_at "rd"
  refine w_fd (div_ok h1 h2) ?_
  walk_at "rd"
  refine w_iteD (fun c => ?_) (fun c => ?_)
  · walk_at "rd"
    rw [rnd, if_pos c] at q
    exact q
  · walk_at "rd"
    rw [rnd, if_neg c] at q
    exact q
def sp_tens (K : PySem.W.Frag) : Sp := fun vs H Q _ => match vs with
  | [x] => ∃ k : Nat, x = .int k ∧ k ≤ 50 ∧ Q (.int (10 ^ k)) H
  | _ => False
theorem ok_tens {P : Program} {w : World} {K : PySem.W.Frag} {mg : Str → Option Value} {base : Heap} (T : Tx P K mg)  : Has P w K mg base 1 "tens" ["many"] (sp_tens K) := by
  refine Has.mk (k := 0) T.d_tens T.g_tens sc_tens (fun _ _ _ _ _ _ us hl => match us, hl with | [_], _ => rfl) (fun vs H Q E h => by rcases vs with _ | ⟨v0, _ | ⟨v1, rest1⟩⟩ <;> first | rfl | exact h.elim) (fun f cdv A outer s H vs Q E hr hgd h => have hu := hr.units; have hu66 := units66 hr; ⟨_, (pss_one (ps_ret (pe_callTy c_int (by rfl) T.n_int (by decide +kernel) (pa_cons (pe_op (o_add K) (pe_S [49] rfl) (pe_op o_mul (pe_S [48] rfl) (pv 0))) pa_nil)))), ?_⟩)
  rcases vs with _ | ⟨v0, _ | ⟨v1, rest1⟩⟩ <;> try exact h.elim
  rw [show L2.start ["many"] [v0] = [some v0] from rfl]
  try dsimp only [cx_K]
  obtain ⟨k, rfl, hk, q⟩ := h
  walk_at "rd"
  refine w_mul_S (by omega) ?_
  refine w_add_S (by simp; omega) ?_
  walk_at "rd"
  refine w_int_S (digs_all (digs_cons rfl (digs_zeros k))) (by simp) (by simp; omega) ?_
  have e : (NumText.digitsVal ([49] ++ List.replicate k 48) : Nat) = 10 ^ k := dv_zeros k
  rw [e]
  simpa using q
def sp_figures_from (K : PySem.W.Frag) : Sp := fun vs H Q _ => match vs with
  | [x, y, z] => ∃ (l : List Nat) (st m : Nat), x = .str (S l) ∧ y = .int st ∧ z = .int m ∧ l.length ≤ 1000 ∧ Q (.int (st + figs m (l.drop st) : Nat)) H
  | _ => False
theorem ok_figures_from {P : Program} {w : World} {K : PySem.W.Frag} {mg : Str → Option Value} {base : Heap} (T : Tx P K mg)  : Has P w K mg base 1 "figures_from" ["text", "start", "most"] (sp_figures_from K) := by
  refine Has.mk (k := 0) T.d_figures_from T.g_figures_from sc_figures_from (fun _ _ _ _ _ _ us hl => match us, hl with | [_, _, _], _ => rfl) (fun vs H Q E h => by rcases vs with _ | ⟨v0, _ | ⟨v1, _ | ⟨v2, _ | ⟨v3, rest3⟩⟩⟩⟩ <;> first | rfl | exact h.elim) (fun f cdv A outer s H vs Q E hr hgd h => have hu := hr.units; have hu66 := units66 hr; ⟨_, (pss_cons (ps_set (i := 3) sc_figures_from.nd rfl (.inl rfl) (pv 1)) (pss_cons (ps_while PassesOwn.leaving (PW.pt (pw_and (pt_cmpR o_lt (pv 3) (pe_callB (c_len K) (by rfl) T.n_len (by decide +kernel) (pa_cons (pv 0) pa_nil)) (nomark _)) (pw_and (pt_cmpR o_lt (pe_op o_sub (pv 3) (pv 1)) (pv 2) (nomark _)) (pw_and1 (pt_cmpR (o_in K) (pe_ix (ixA K) (pv 0) (pv 3) (fun _ _ => rfl)) (pe_gS [48, 49, 50, 51, 52, 53, 54, 55, 56, 57] T.s_FIGURES rfl) rfl))))) (pss_one (ps_aug (i := 3) sc_figures_from.nd rfl (.inl rfl) pe_int ip_add))) (pss_one (ps_ret (pv 3))))), ?_⟩)
  rcases vs with _ | ⟨v0, _ | ⟨v1, _ | ⟨v2, _ | ⟨v3, rest3⟩⟩⟩⟩ <;> try exact h.elim
  rw [show L2.start ["text", "start", "most", "here"] [v0, v1, v2] = [some v0, some v1, some v2, none] from rfl]
  try dsimp only [cx_K]
  obtain ⟨l, st, m, rfl, rfl, rfl, hl, q⟩ := h
  walk_at "rd"
  refine w_whileI (fun n σ H' => H' = H ∧ ∃ k : Nat, n = m - k ∧ σ = [some (.str (S l)), some (.int st), some (.int m), some (.int (st + k : Nat))] ∧ k ≤ m ∧ k + figs (m - k) (l.drop (st + k)) = figs m (l.drop st)) (m0 := m) ⟨rfl, 0, by omega, rfl, by omega, by simp⟩ ?_
  rintro n σ H' ⟨rfl, k, rfl, rfl, hk, he⟩
  have stop : figs (m - k) (l.drop (st + k)) = 0 → Q (.int (st + k : Nat)) H' := by
    intro z
    rw [z, Nat.add_zero] at he
    rw [he]
    exact q
  walk_at "rd"
  refine w_len_S (by omega) ?_
  walk_at "rd"
  refine w_iteD (fun c1 => ?_) (fun c1 => ?_)
  · walk_at "rd"
    refine w_iteD (fun c2 => ?_) (fun c2 => ?_)
    · walk_at "rd"
      have hi : st + k < l.length := by omega
      have e := List.getElem?_eq_getElem hi
      have em : m - k = (m - (k + 1)) + 1 := by omega
      refine w_ix_S (by omega) (atI_nat e) ?_
      walk_at "rd"
      refine w_in_S ?_
      rw [em, figs_cons e, ← in_figs] at stop he
      walk_at "rd"
      refine w_iteD (fun c3 => ?_) (fun c3 => ?_)
      · rw [if_pos (decide_eq_true c3)] at he
        walk_at "rd"
        exact ⟨m - (k + 1), by omega, rfl, k + 1, rfl, by simp; omega, by omega, by show k + 1 + figs (m - (k + 1)) (l.drop (st + k + 1)) = _; omega⟩
      · walk_at "rd"
        exact stop (by rw [if_neg (by simpa using c3)])
    · walk_at "rd"
      have e : m - k = 0 := by omega
      exact stop (by rw [e]; rfl)
  · walk_at "rd"
    refine stop ?_
    rw [List.drop_of_length_le (by omega)]
    cases (m - k) <;> rfl
def CP (K : PySem.W.Frag) : Value := .ref (He.ga K "ParseError")
/-- no error, or a parse error with this number -/
def rq (K : PySem.W.Frag) (r : Option Nat) (H : Hp) (Q : VK) (E : XK) : Prop := match r with
  | none => Q .non H
  | some k => ∀ d, H d = none → E (CP K) (some d) (upd H d (.xd [("number", .int k)]))
def sp_require_points (K : PySem.W.Frag) : Sp := fun vs H Q E => match vs with
  | [x, y] => ∃ (l : List Nat) (s : Nat), x = .str (S l) ∧ y = .int s ∧ l.length ≤ 1000 ∧ s ≤ l.length ∧ rq K (reqPoints l s) H Q E
  | _ => False
theorem ok_require_points {P : Program} {w : World} {K : PySem.W.Frag} {mg : Str → Option Value} {base : Heap} (T : Tx P K mg)  : Has P w K mg base 4 "require_points" ["text", "start"] (sp_require_points K) := by
  refine Has.mk (k := 3) T.d_require_points T.g_require_points sc_require_points (fun _ _ _ _ _ _ us hl => match us, hl with | [_, _], _ => rfl) (fun vs H Q E h => by rcases vs with _ | ⟨v0, _ | ⟨v1, _ | ⟨v2, rest2⟩⟩⟩ <;> first | rfl | exact h.elim) (fun f cdv A outer s H vs Q E hr hgd h => have hu := hr.units; have hu66 := units66 hr; ⟨_, (pss_cons (ps_for PassesOwn.leaving rfl (pi_range2 (by rfl) T.n_range (pa_cons (pv 1) (pa_cons (pe_op (o_add K) (pv 1) pe_int) pa_nil))) (pg_name (i := 2) sc_require_points.nd rfl (.inl rfl)) (pss_one (ps_if (PW.pt (pw_or (pt_cmpR (o_eq K hu) (pv 2) (pe_callB (c_len K) (by rfl) T.n_len (by decide +kernel) (pa_cons (pv 0) pa_nil)) (nomark _)) (pw_or1 (pt_cmpR (o_ne K hu) (pe_ix (ixA K) (pv 0) (pv 2) (fun _ _ => rfl)) (pe_ix (ixA K) (pe_S [112, 116] rfl) (pe_op o_sub (pv 2) (pv 1)) (fun _ _ => rfl)) (nomark _))))) (pss_one (ps_raise rfl (takes_of rfl rfl rfl rfl) (pmk_sup baseVE T.x_ParseError T.g_ParseError hr (pa_cons (pv 2) pa_nil) (by rfl)))) pss_nil))) (pss_one (ps_if (pt_cmpR o_gt (pe_callB (c_len K) (by rfl) T.n_len (by decide +kernel) (pa_cons (pv 0) pa_nil)) (pe_op (o_add K) (pv 1) pe_int) (nomark _)) (pss_one (ps_raise rfl (takes_of rfl rfl rfl rfl) (pmk_sup baseVE T.x_ParseError T.g_ParseError hr (pa_cons (pe_op (o_add K) (pv 1) pe_int) pa_nil) (by rfl)))) pss_nil))), ?_⟩)
  rcases vs with _ | ⟨v0, _ | ⟨v1, _ | ⟨v2, rest2⟩⟩⟩ <;> try exact h.elim
  rw [show L2.start ["text", "start", "here"] [v0, v1] = [some v0, some v1, none] from rfl]
  try dsimp only [cx_K]
  obtain ⟨l, s, rfl, rfl, hl, hs, q⟩ := h
  walk_at "rd"
  refine w_rng2v (by omega) ?_
  have e2 : ((s : Int) + 2 - s).toNat = 2 := by omega
  rw [e2]
  unfold reqPoints at q
  refine w_forRng2 (fun i σ H' => H' = H ∧ (∃ v, σ = [some (.str (S l)), some (.int s), v]) ∧ s + i ≤ l.length ∧ (1 ≤ i → l[s]? = some 112) ∧ (2 ≤ i → l[s + 1]? = some 116)) ⟨rfl, ⟨_, rfl⟩, by omega, by omega, by omega⟩ ?_ ?_
  · rintro i σ H' hi ⟨rfl, ⟨v, rfl⟩, h1, h2, h3⟩
    walk_at "rd"
    refine w_len_S (by omega) ?_
    walk_at "rd"
    have hi' : i = 0 ∨ i = 1 := by omega
    refine w_iteD (fun c1 => ?_) (fun c1 => ?_)
    · walk_at "rd"
      have cl : s + i = l.length := by omega
      rcases hi' with rfl | rfl
      · have e : l[s]? = none := List.getElem?_eq_none (by omega)
        rw [if_pos (by rw [e]; simp)] at q
        simpa [rq, CP] using q
      · have e : l[s + 1]? = none := List.getElem?_eq_none (by omega)
        rw [if_neg (by rw [h2 (by omega)]; simp), if_pos (by rw [e]; simp)] at q
        simpa [rq, CP] using q
    · walk_at "rd"
      have cl : s + i < l.length := by omega
      have e := List.getElem?_eq_getElem cl
      have ei : ((s : Int) + (i : Int)) = ((s + i : Nat) : Int) := by omega
      rw [ei]
      refine w_ix_S (by omega) (atI_nat e) ?_
      walk_at "rd"
      refine w_ix_S (c := if i = 0 then 112 else 116) (by decide) ?_ ?_
      · rcases hi' with rfl | rfl
        · have e0 : ((s + 0 : Nat) : Int) - s = 0 := by omega
          rw [e0]; rfl
        · have e0 : ((s + 1 : Nat) : Int) - s = 1 := by omega
          rw [e0]; rfl
      walk_at "rd"
      refine w_iteD (fun c2 => ?_) (fun c2 => ?_)
      · have c2 : l[s + i] = (if i = 0 then 112 else 116) := by simpa using c2
        rw [c2] at e
        walk_at "rd"
        rcases hi' with rfl | rfl
        · exact ⟨rfl, ⟨_, rfl⟩, by omega, fun _ => by simpa using e, by omega⟩
        · exact ⟨rfl, ⟨_, rfl⟩, by omega, fun _ => h2 (by omega), fun _ => by simpa using e⟩
      · have c2 : l[s + i] ≠ (if i = 0 then 112 else 116) := by simpa using c2
        walk_at "rd"
        rcases hi' with rfl | rfl
        · have e' : l[s]? ≠ some 112 := by
            have e : l[s]? = some _ := e
            rw [e]
            intro z
            exact c2 (by simpa using z)
          rw [if_pos e'] at q
          simpa [rq, CP] using q
        · have e' : l[s + 1]? ≠ some 116 := by
            rw [e]
            intro z
            exact c2 (by simpa using z)
          rw [if_neg (by rw [h2 (by omega)]; simp), if_pos e'] at q
          simpa [rq, CP] using q
  · rintro σ H' ⟨rfl, ⟨v, rfl⟩, h1, h2, h3⟩
    rw [if_neg (by rw [h2 (by omega)]; simp), if_neg (by rw [h3 (by omega)]; simp)] at q
    walk_at "rd"
    refine w_len_S (by omega) ?_
    walk_at "rd"
    refine w_iteD (fun c1 => ?_) (fun c1 => ?_)
    · walk_at "rd"
      rw [if_pos (by omega)] at q
      simpa [rq, CP] using q
    · rw [if_neg (by omega)] at q
      walk_at "rd"
      exact q
def sp_require_decimals (K : PySem.W.Frag) : Sp := fun vs H Q E => match vs with
  | [x, y] => ∃ (l : List Nat) (s : Nat), x = .str (S l) ∧ y = .int s ∧ l.length ≤ 1000 ∧ s ≤ l.length ∧ rq K (reqDec l s) H Q E
  | _ => False
theorem ok_require_decimals {P : Program} {w : World} {K : PySem.W.Frag} {mg : Str → Option Value} {base : Heap} (T : Tx P K mg) (h_require_points : Has P w K mg base 4 "require_points" ["text", "start"] (sp_require_points K)) (h_figures_from : Has P w K mg base 1 "figures_from" ["text", "start", "most"] (sp_figures_from K)) : Has P w K mg base 5 "require_decimals" ["text", "start"] (sp_require_decimals K) := by
  refine Has.mk (k := 4) T.d_require_decimals T.g_require_decimals sc_require_decimals (fun _ _ _ _ _ _ us hl => match us, hl with | [_, _], _ => rfl) (fun vs H Q E h => by rcases vs with _ | ⟨v0, _ | ⟨v1, _ | ⟨v2, rest2⟩⟩⟩ <;> first | rfl | exact h.elim) (fun f cdv A outer s H vs Q E hr hgd h => have hu := hr.units; have hu66 := units66 hr; ⟨_, (pss_cons (ps_set (i := 2) sc_require_decimals.nd rfl (.inl rfl) (pe_callH h_figures_from (hr.mono (by decide)) hgd (takes_of rfl rfl rfl rfl) (pa_cons (pv 0) (pa_cons (pv 1) (pa_cons (pe_gint T.i_MOST_DECIMALS) pa_nil))))) (pss_cons (ps_if (pt_cmpR (o_eq K hu) (pv 2) (pv 1) (nomark _)) (pss_one (ps_raise rfl (takes_of rfl rfl rfl rfl) (pmk_sup baseVE T.x_ParseError T.g_ParseError hr (pa_cons (pv 2) pa_nil) (by rfl)))) pss_nil) (pss_one (ps_expr (pe_callH h_require_points (hr.mono (by decide)) hgd (takes_of rfl rfl rfl rfl) (pa_cons (pv 0) (pa_cons (pv 2) pa_nil))))))), ?_⟩)
  rcases vs with _ | ⟨v0, _ | ⟨v1, _ | ⟨v2, rest2⟩⟩⟩ <;> try exact h.elim
  rw [show L2.start ["text", "start", "here"] [v0, v1] = [some v0, some v1, none] from rfl]
  try dsimp only [cx_K]
  obtain ⟨l, s, rfl, rfl, hl, hs, q⟩ := h
  walk_at "rd"
  refine ⟨l, s, 9, rfl, rfl, rfl, hl, ?_⟩
  unfold reqDec at q
  have hf := figs_le 9 (l.drop s)
  rw [List.length_drop] at hf
  generalize figs 9 (l.drop s) = m at q hf
  walk_at "rd"
  refine w_iteD (fun c => ?_) (fun c => ?_)
  · walk_at "rd"
    dsimp only at q
    rw [if_pos (by omega)] at q
    simpa [rq, CP] using q
  · walk_at "rd"
    dsimp only at q
    rw [if_neg (by omega)] at q
    refine ⟨l, s + m, rfl, rfl, hl, by omega, ?_⟩
    exact q
def sp_require_length_text (K : PySem.W.Frag) : Sp := fun vs H Q E => match vs with
  | [x] => ∃ (l : List Nat), x = .str (S l) ∧ l.length ≤ 1000 ∧ rq K (reqText l) H Q E
  | _ => False
theorem ok_require_length_text {P : Program} {w : World} {K : PySem.W.Frag} {mg : Str → Option Value} {base : Heap} (T : Tx P K mg) (h_require_decimals : Has P w K mg base 5 "require_decimals" ["text", "start"] (sp_require_decimals K)) (h_require_points : Has P w K mg base 4 "require_points" ["text", "start"] (sp_require_points K)) (h_figures_from : Has P w K mg base 1 "figures_from" ["text", "start", "most"] (sp_figures_from K)) : Has P w K mg base 6 "require_length_text" ["text"] (sp_require_length_text K) := by
  refine Has.mk (k := 5) T.d_require_length_text T.g_require_length_text sc_require_length_text (fun _ _ _ _ _ _ us hl => match us, hl with | [_], _ => rfl) (fun vs H Q E h => by rcases vs with _ | ⟨v0, _ | ⟨v1, rest1⟩⟩ <;> first | rfl | exact h.elim) (fun f cdv A outer s H vs Q E hr hgd h => have hu := hr.units; have hu66 := units66 hr; ⟨_, (pss_cons (ps_set (i := 1) sc_require_length_text.nd rfl (.inl rfl) (pe_ifExp (pt_cmpR (o_eq K hu) (pe_slice (sl_any K) (pv 0) po_none (po_some pe_int)) (pe_S [45] rfl) (nomark _)) pe_int pe_int)) (pss_cons (ps_set (i := 2) sc_require_length_text.nd rfl (.inl rfl) (pe_callH h_figures_from (hr.mono (by decide)) hgd (takes_of rfl rfl rfl rfl) (pa_cons (pv 0) (pa_cons (pv 1) (pa_cons (pe_gint T.i_MOST_UNITS) pa_nil))))) (pss_cons (ps_set (i := 3) sc_require_length_text.nd rfl (.inl rfl) (pe_op o_sub (pv 2) (pv 1))) (pss_one (ps_if (PW.pt (pw_and (pt_cmpR (o_eq K hu) (pe_slice (sl_any K) (pv 0) (po_some (pv 2)) (po_some (pe_op (o_add K) (pv 2) pe_int))) (pe_S [46] rfl) (nomark _)) (pw_and1 (pt_cmpR o_le (pv 3) (pe_gint T.i_MOST_WHOLE) (nomark _))))) (pss_one (ps_expr (pe_callH h_require_decimals (hr.mono (by decide)) hgd (takes_of rfl rfl rfl rfl) (pa_cons (pv 0) (pa_cons (pe_op (o_add K) (pv 2) pe_int) pa_nil))))) (pss_one (ps_if (PW.pt (pw_and (pt_cmpR (o_eq K hu) (pe_slice (sl_any K) (pv 0) (po_some (pv 2)) (po_some (pe_op (o_add K) (pv 2) pe_int))) (pe_S [117] rfl) (nomark _)) (pw_and1 (pt_cmpR o_gt (pv 3) pe_int (nomark _))))) (pss_one (ps_if (pt_cmpR o_gt (pe_callB (c_len K) (by rfl) T.n_len (by decide +kernel) (pa_cons (pv 0) pa_nil)) (pe_op (o_add K) (pv 2) pe_int) (nomark _)) (pss_one (ps_raise rfl (takes_of rfl rfl rfl rfl) (pmk_sup baseVE T.x_ParseError T.g_ParseError hr (pa_cons (pe_op (o_add K) (pv 2) pe_int) pa_nil) (by rfl)))) pss_nil)) (pss_one (ps_if (PW.pt (pw_and (pt_cmpR (o_eq K hu) (pe_slice (sl_any K) (pv 0) (po_some (pv 2)) (po_some (pe_op (o_add K) (pv 2) pe_int))) (pe_S [112] rfl) (nomark _)) (pw_and1 (pt_chain o_le o_le pe_int (pv 3) (pe_gint T.i_MOST_WHOLE))))) (pss_one (ps_expr (pe_callH h_require_points (hr.mono (by decide)) hgd (takes_of rfl rfl rfl rfl) (pa_cons (pv 0) (pa_cons (pv 2) pa_nil))))) (pss_one (ps_raise rfl (takes_of rfl rfl rfl rfl) (pmk_sup baseVE T.x_ParseError T.g_ParseError hr (pa_cons (pv 2) pa_nil) (by rfl))))))))))))), ?_⟩)
  rcases vs with _ | ⟨v0, _ | ⟨v1, rest1⟩⟩ <;> try exact h.elim
  rw [show L2.start ["text", "start", "here", "many"] [v0] = [some v0, none, none, none] from rfl]
  try dsimp only [cx_K]
  obtain ⟨l, rfl, hl, q⟩ := h
  unfold reqText at q
  refine w_seq (w_asg (w_hide fun C hC => ?_))
  have key : ∀ st : Nat, st ≤ l.length → (rq K (let m := figs 10 (l.drop st); let h := st + m
      if l[h]? = some 46 ∧ m ≤ 5 then reqDec l (h + 1)
      else if l[h]? = some 117 ∧ 0 < m then (if h + 1 < l.length then some (h + 1) else none)
      else if l[h]? = some 112 ∧ 1 ≤ m ∧ m ≤ 5 then reqPoints l h
      else some h) H Q E) → C (.int st) H := by
    intro st hst q
    rw [hC]
    walk_at "rd"
    refine ⟨l, st, 10, rfl, rfl, rfl, hl, ?_⟩
    have hf := figs_le 10 (l.drop st)
    rw [List.length_drop] at hf
    generalize figs 10 (l.drop st) = m at q hf
    dsimp only at q
    have cut : ∀ (c : Nat) (C : VK), C (.bl (decide (l[st + m]? = some c))) H → rSl K (.str (S l)) (some (st + m : Nat)) (some ((st + m : Nat) + 1)) H fun x H1 => kEq K x (.str (S [c])) H1 C := by
      intro c C hc
      refine w_cut_mid (by omega) (by omega) (by omega) ?_
      refine w_eq_S ?_
      have e : ((st + m : Nat) + 1 : Int).toNat - ((st + m : Nat) : Int).toNat = st + m + 1 - (st + m) := by omega
      have e2 : ((st + m : Nat) : Int).toNat = st + m := by omega
      rw [e, e2]
      have := cut_one (l := l) (h := st + m) (c := c)
      rw [decide_eq_decide.mpr this]
      exact hc
    have em : ((st + m : Nat) : Int) - st = m := by omega
    walk_at "rd"
    refine cut 46 _ ?_
    walk_at "rd"
    have bad : ¬ (l[st + m]? = some 46 ∧ m ≤ 5) → ¬ (l[st + m]? = some 117 ∧ 0 < m) → ¬ (l[st + m]? = some 112 ∧ 1 ≤ m ∧ m ≤ 5) → ∀ d, H d = none → E (CP K) (some d) (upd H d (.xd [("number", .int (st + m : Nat))])) := by
      intro h1 h2 h3
      rw [if_neg h1, if_neg h2, if_neg h3] at q
      exact q
    refine w_iteD (fun c1 => ?_) (fun c1 => ?_)
    · have n1 : ¬ l[st + m]? = some 117 := by rw [c1]; decide
      have n2 : ¬ l[st + m]? = some 112 := by rw [c1]; decide
      walk_at "rd"
      refine w_iteD (fun c2 => ?_) (fun c2 => ?_)
      · walk_at "rd"
        rw [if_pos ⟨c1, by omega⟩] at q
        have hb : st + m < l.length := (List.getElem?_eq_some_iff.mp c1).1
        exact ⟨l, st + m + 1, rfl, rfl, hl, by omega, q⟩
      · walk_at "rd"
        refine cut 117 _ ?_
        walk_at "rd"
        refine w_iteDf n1 ?_
        walk_at "rd"
        refine cut 112 _ ?_
        walk_at "rd"
        refine w_iteDf n2 ?_
        walk_at "rd"
        exact bad (fun z => c2 (by omega)) (fun z => n1 z.1) (fun z => n2 z.1)
    · walk_at "rd"
      refine cut 117 _ ?_
      walk_at "rd"
      refine w_iteD (fun c2 => ?_) (fun c2 => ?_)
      · have n2 : ¬ l[st + m]? = some 112 := by rw [c2]; decide
        walk_at "rd"
        refine w_iteD (fun c3 => ?_) (fun c3 => ?_)
        · walk_at "rd"
          refine w_len_S (by omega) ?_
          walk_at "rd"
          rw [if_neg (fun z => c1 z.1), if_pos ⟨c2, by omega⟩] at q
          refine w_iteD (fun c4 => ?_) (fun c4 => ?_)
          · walk_at "rd"
            rw [if_pos (by omega)] at q
            exact q
          · rw [if_neg (by omega)] at q
            walk_at "rd"
            exact q
        · walk_at "rd"
          refine cut 112 _ ?_
          walk_at "rd"
          refine w_iteDf n2 ?_
          walk_at "rd"
          exact bad (fun z => c1 z.1) (fun z => c3 (by omega)) (fun z => n2 z.1)
      · walk_at "rd"
        refine cut 112 _ ?_
        walk_at "rd"
        refine w_iteD (fun c3 => ?_) (fun c3 => ?_)
        · walk_at "rd"
          refine w_iteD (fun c4 => ?_) (fun c4 => ?_)
          · walk_at "rd"
            refine w_iteD (fun c5 => ?_) (fun c5 => ?_)
            · walk_at "rd"
              rw [if_neg (fun z => c1 z.1), if_neg (fun z => c2 z.1), if_pos ⟨c3, by omega, by omega⟩] at q
              have hb : st + m < l.length := (List.getElem?_eq_some_iff.mp c3).1
              exact ⟨l, st + m, rfl, rfl, hl, by omega, q⟩
            · walk_at "rd"
              exact bad (fun z => c1 z.1) (fun z => c2 z.1) (fun z => c5 (by omega))
          · walk_at "rd"
            exact bad (fun z => c1 z.1) (fun z => c2 z.1) (fun z => c4 (by omega))
        · walk_at "rd"
          exact bad (fun z => c1 z.1) (fun z => c2 z.1) (fun z => c3 z.1)
  walk_at "rd"
  refine w_cut_to (by omega) (by decide) ?_
  walk_at "rd"
  refine w_iteD (fun c => ?_) (fun c => ?_)
  · have c := take_one.mp c
    walk_at "rd"
    refine key 1 ?_ ?_
    · cases l <;> simp at c ⊢
    · simp only [c, if_true] at q
      exact q
  · have c : ¬ l.head? = some 45 := fun z => c (take_one.mpr z)
    walk_at "rd"
    refine key 0 (by omega) ?_
    simp only [c, if_false] at q
    exact q

open SX (S)
open Len
theorem rq_none {K : PySem.W.Frag} {H : Hp} {Q : VK} {E : XK} (h : Q .non H) : rq K none H Q E := h
def sp_points_told (K : PySem.W.Frag) : Sp := fun vs H Q _ => match vs with
  | [x] => ∃ ds, digs ds ∧ ds.length ≤ 5 ∧ ((1 ≤ ds.length ∧ x = .str (S ds) ∧ ∀ H', Ext H H' → Q (.int (pts ds)) H') ∨ ∃ es, digs es ∧ 1 ≤ es.length ∧ es.length ≤ 9 ∧ x = .str (S (ds ++ 46 :: es)) ∧ ∀ H', Ext H H' → Q (.int (pts (ds ++ 46 :: es))) H')
  | _ => False
theorem pow_bd {k : Nat} (h : k ≤ 9) : (0 : Int) < 10 ^ k ∧ (10 : Int) ^ k < 10 ^ 60 := by
  constructor
  · exact Int.pow_pos (by decide)
  · have : (10 : Nat) ^ k < 10 ^ 60 := Nat.pow_lt_pow_right (by decide) (by omega)
    exact_mod_cast this
theorem no46 {ds : List Nat} (h : digs ds) : 46 ∉ ds := fun z => dig46 (h _ z) rfl
theorem ok_points_told {P : Program} {w : World} {K : PySem.W.Frag} {mg : Str → Option Value} {base : Heap} (T : Tx P K mg) (h_rounded : Has P w K mg base 1 "rounded" ["top", "bottom"] (sp_rounded K)) (h_tens : Has P w K mg base 1 "tens" ["many"] (sp_tens K)) : Has P w K mg base 2 "points_told" ["number"] (sp_points_told K) := by
  refine Has.mk (k := 1) T.d_points_told T.g_points_told sc_points_told (fun _ _ _ _ _ _ us hl => match us, hl with | [_], _ => rfl) (fun vs H Q E h => by rcases vs with _ | ⟨v0, _ | ⟨v1, rest1⟩⟩ <;> first | rfl | exact h.elim) (fun f cdv A outer s H vs Q E hr hgd h => have hu := hr.units; have hu66 := units66 hr; ⟨_, (pss_cons (ps_asg (pe_bm PySem.F.plainAttrs_str PySem.F.slot_str_partition PySem.F.type_str_partition m_partition (pv 0) (pa_cons (pe_S [46] rfl) pa_nil)) (pg_tup (by rfl) (pgs_cons (pg_name (i := 1) sc_points_told.nd rfl (.inl rfl)) (pgs_cons (pg_name (i := 2) sc_points_told.nd rfl (.inl rfl)) (pgs_cons (pg_name (i := 3) sc_points_told.nd rfl (.inl rfl)) pgs_nil))))) (pss_one (ps_ret (pe_callH h_rounded (hr.mono (by decide)) hgd (takes_of rfl rfl rfl rfl) (pa_cons (pe_op o_mul (pe_callTy c_int (by rfl) T.n_int (by decide +kernel) (pa_cons (pe_op (o_add K) (pv 1) (pv 3)) pa_nil)) (pe_gint T.i_POINT)) (pa_cons (pe_callH h_tens (hr.mono (by decide)) hgd (takes_of rfl rfl rfl rfl) (pa_cons (pe_callB (c_len K) (by rfl) T.n_len (by decide +kernel) (pa_cons (pv 3) pa_nil)) pa_nil)) pa_nil)))))), ?_⟩)
  rcases vs with _ | ⟨v0, _ | ⟨v1, rest1⟩⟩ <;> try exact h.elim
  rw [show L2.start ["number", "whole", "point", "decimals"] [v0] = [some v0, none, none, none] from rfl]
  try dsimp only [cx_K]
  obtain ⟨ds, hd, h5, h⟩ := h
  rcases h with ⟨h1, rfl, q⟩ | ⟨es, he, e1, e9, rfl, q⟩
  · walk_at "rd"
    refine w_part0 (by omega) (no46 hd) fun p H1 n1 x1 p1 => ?_
    walk_at "rd"
    refine w_gTup (SqT.of p1) rfl ?_
    walk_at "rd"
    refine w_add_S (by simp; omega) ?_
    walk_at "rd"
    rw [List.append_nil]
    refine w_int_S (digs_all hd) (by intro z; rw [z] at h1; simp at h1) (by omega) ?_
    walk_at "rd"
    refine w_len_S (by simp) ?_
    walk_at "rd"
    refine ⟨0, rfl, by omega, ?_⟩
    walk_at "rd"
    refine ⟨_, _, rfl, rfl, by decide, by decide, ?_⟩
    have := q H1 x1
    rw [pts_p hd] at this
    have e : rnd ((NumText.digitsVal ds : Nat) * 65536) (10 ^ 0) = (dv ds : Int) * 65536 := rnd_one (dv ds * 65536)
    rw [e]
    exact this
  · walk_at "rd"
    refine w_part1 (by omega) (no46 hd) fun p H1 n1 x1 p1 => ?_
    walk_at "rd"
    refine w_gTup (SqT.of p1) rfl ?_
    walk_at "rd"
    refine w_add_S (by omega) ?_
    walk_at "rd"
    refine w_int_S (digs_all (digs_app hd he)) (by intro z; have := congrArg List.length z; rw [List.length_append, List.length_nil] at this; omega) (by simp; omega) ?_
    walk_at "rd"
    refine w_len_S (by omega) ?_
    walk_at "rd"
    refine ⟨es.length, rfl, by omega, ?_⟩
    walk_at "rd"
    have pb := pow_bd e9
    refine ⟨_, _, rfl, rfl, pb.1, pb.2, ?_⟩
    have := q H1 x1
    rw [pts_d hd] at this
    exact this
def CL (K : PySem.W.Frag) : Value := .ref (He.ga K "InvalidLength")
def sp_length_of (K : PySem.W.Frag) : Sp := fun vs H Q E => match vs with
  | [x] => (∃ l, x = .str (S l) ∧ l.length ≤ 1000 ∧ match due l with
      | .parse k => ∀ d, H d = none → E (CP K) (some d) (upd H d (.xd [("number", .int k)]))
      | .big => ∀ H', Ext H H' → E (CL K) none H'
      | .ok i => ∀ H', Ext H H' → Q (.int i) H') ∨ (Kd H x ∧ (∀ z, x ≠ .str z) ∧ ∀ d, H d = none → E (CP K) (some d) (upd H d (.xd [("number", .non)])))
  | _ => False
theorem ok_length_of {P : Program} {w : World} {K : PySem.W.Frag} {mg : Str → Option Value} {base : Heap} (T : Tx P K mg) (h_points_told : Has P w K mg base 2 "points_told" ["number"] (sp_points_told K)) (h_require_length_text : Has P w K mg base 6 "require_length_text" ["text"] (sp_require_length_text K)) : Has P w K mg base 7 "length_of" ["text"] (sp_length_of K) := by
  refine Has.mk (k := 6) T.d_length_of T.g_length_of sc_length_of (fun _ _ _ _ _ _ us hl => match us, hl with | [_], _ => rfl) (fun vs H Q E h => by rcases vs with _ | ⟨v0, _ | ⟨v1, rest1⟩⟩ <;> first | rfl | exact h.elim) (fun f cdv A outer s H vs Q E hr hgd h => have hu := hr.units; have hu66 := units66 hr; ⟨_, (pss_cons (ps_if (pt_not (pt_val (pe_isi K T.n_isinstance (pv 0) (pe_ty (T := "str") T.n_str (by decide +kernel))))) (pss_one (ps_raise rfl (takes_of rfl rfl rfl rfl) (pmk_sup baseVE T.x_ParseError T.g_ParseError hr (pa_cons pe_non pa_nil) (by rfl)))) pss_nil) (pss_cons (ps_expr (pe_callH h_require_length_text (hr.mono (by decide)) hgd (takes_of rfl rfl rfl rfl) (pa_cons (pv 0) pa_nil))) (pss_cons (ps_set (i := 1) sc_length_of.nd rfl (.inl rfl) (pe_ifExp (pt_cmpR (o_eq K hu) (pe_ix (ixA K) (pv 0) pe_int (fun _ _ => rfl)) (pe_S [45] rfl) (nomark _)) (pe_slice (sl_any K) (pv 0) (po_some pe_int) po_none) (pv 0))) (pss_cons (ps_set (i := 2) sc_length_of.nd rfl (.inl rfl) (pe_ifExp (pt_cmpR (o_eq K hu) (pe_ix (ixA K) (pv 1) (pe_un un_neg pe_int) (fun _ _ => rfl)) (pe_S [117] rfl) (nomark _)) (pe_callTy c_int (by rfl) T.n_int (by decide +kernel) (pa_cons (pe_slice (sl_any K) (pv 1) po_none (po_some (pe_un un_neg pe_int))) pa_nil)) (pe_callH h_points_told (hr.mono (by decide)) hgd (takes_of rfl rfl rfl rfl) (pa_cons (pe_slice (sl_any K) (pv 1) po_none (po_some (pe_un un_neg pe_int))) pa_nil)))) (pss_cons (ps_if (pt_cmpR o_gt (pv 2) (pe_gint T.i_MAX_LENGTH) (nomark _)) (pss_one (ps_raise rfl (takes_of rfl rfl rfl rfl) (pmk_own PySem.F.excBase_ValueError T.e_InvalidLength T.g_InvalidLength T.k_InvalidLength (raises_own T.b_InvalidLength T.t_InvalidLength) (by rfl)))) pss_nil) (pss_one (ps_ret (pe_ifExp (pt_cmpR (o_eq K hu) (pe_ix (ixA K) (pv 0) pe_int (fun _ _ => rfl)) (pe_S [45] rfl) (nomark _)) (pe_un un_neg (pv 2)) (pv 2))))))))), ?_⟩)
  rcases vs with _ | ⟨v0, _ | ⟨v1, rest1⟩⟩ <;> try exact h.elim
  rw [show L2.start ["text", "number", "size"] [v0] = [some v0, none, none] from rfl]
  try dsimp only [cx_K]
  rcases h with ⟨l, rfl, hl, q⟩ | ⟨k, n, q⟩
  rotate_left
  · walk_at "rd"
    cases v0 <;> first | exact k.elim | exact absurd rfl (n _) | (walk_at "rd"; exact q)
  walk_at "rd"
  refine ⟨l, rfl, hl, ?_⟩
  rw [reqText_err]
  unfold due at q
  cases he : err .s0 l with
  | some k =>
    rw [he] at q
    exact q
  | none =>
    rw [he] at q
    dsimp only at q
    have hS := none_s0 he
    refine rq_none ?_
    have hne : body l ≠ [] := by
      intro z
      rw [z] at hS
      generalize hw : ([] : List Nat) = w at hS
      cases hS <;> simp at hw
    obtain ⟨c, r, rfl⟩ : ∃ c r, l = c :: r := by
      cases l with
      | nil => exact absurd rfl hne
      | cons c r => exact ⟨c, r, rfl⟩
    have a0 : atI (c :: r) 0 = some c := atI_nat (j := 0) rfl
    have hlr : (c :: r).length ≤ 1000 := hl
    have ec : (decide ([c] = [45])) = decide ((c :: r).head? = some 45) := by simp
    have hb : (body (c :: r)).length ≤ 1000 := by
      unfold body
      split
      · simp at hlr ⊢; omega
      · exact hlr
    have un := units_nonneg (body (c :: r))
    have ebody : body (c :: r) = if (c :: r).head? = some 45 then (c :: r).drop 1 else c :: r := rfl
    generalize body (c :: r) = w at q hS hb un ebody hne
    have back : ∀ H', Ext H H' → (tSeq
                    (tIfS (tTest (tOp kGt (tVar 2) (tC (V.int 1073741823))))
                      (fun x σ H => E (Value.ref (He.ga K "InvalidLength")) none H) tNext)
                    (tRet
                      (tIf (tTest (tOp (kEq K) (tOp (rIx K) (tVar 0) (tC (V.int 0))) (tC (V.str (S [45])))))
                        (tUn (rU fun i => V.int (-i)) (tVar 2)) (tVar 2)))) { nx := fun x H' => Q V.non H', rt := Q } [some (.str (S (c :: r))), some (.str (S w)), some (.int (units w))] H' := by
      intro H' x
      walk_at "rd"
      refine w_iteD (fun c1 => ?_) (fun c1 => ?_)
      · rw [if_neg (by omega)] at q
        exact q H' x
      · rw [if_pos (by omega)] at q
        walk_at "rd"
        refine w_ix_S (by omega) a0 ?_
        walk_at "rd"
        refine w_iteD (fun c2 => ?_) (fun c2 => ?_)
        · walk_at "rd"
          rw [if_pos (by simpa using c2)] at q
          exact q H' x
        · walk_at "rd"
          rw [if_neg (by simpa using c2)] at q
          exact q H' x
    walk_at "rx"
    with_reducible refine w_seqH fun N hN => ?_
    have key : N [some (.str (S (c :: r))), some (.str (S w)), none] H := by
      rw [hN]
      cases hS with
      | u ds hd h1 h2 =>
        walk_at "rd"
        refine w_ix_S (by omega) (atI_last ds 117) ?_
        walk_at "rd"
        refine w_cut_toN (k := 1) (by omega) rfl (by omega) ?_
        have e : (ds ++ [117]).take ((ds ++ [117]).length - 1) = ds := by simp
        rw [e]
        walk_at "rd"
        refine w_int_S (digs_all hd) (by intro z; rw [z] at h1; simp at h1) (by omega) ?_
        have := back H Ext.refl
        rw [units_u] at this
        exact this
      | p ds hd h1 h2 =>
        walk_at "rd"
        have e2 : ds ++ [112, 116] = (ds ++ [112]) ++ [116] := by simp
        refine w_ix_S (by omega) (by rw [e2]; exact atI_last _ 116) ?_
        walk_at "rd"
        refine w_cut_toN (k := 2) (by omega) rfl (by omega) ?_
        have e : (ds ++ [112, 116]).take ((ds ++ [112, 116]).length - 2) = ds := by simp
        rw [e]
        walk_at "rd"
        refine ⟨ds, hd, h2, .inl ⟨h1, rfl, fun H' x => ?_⟩⟩
        have := back H' x
        rw [units_pt] at this
        exact this
      | d ds es hd h5 he e1 e9 =>
        walk_at "rd"
        have e2 : ds ++ 46 :: (es ++ [112, 116]) = (ds ++ 46 :: (es ++ [112])) ++ [116] := by simp
        have e3 : ds ++ 46 :: (es ++ [112, 116]) = (ds ++ 46 :: es) ++ [112, 116] := by simp
        refine w_ix_S (by omega) (by rw [e2]; exact atI_last _ 116) ?_
        walk_at "rd"
        refine w_cut_toN (k := 2) (by omega) rfl (by omega) ?_
        have e : (ds ++ 46 :: (es ++ [112, 116])).take ((ds ++ 46 :: (es ++ [112, 116])).length - 2) = ds ++ 46 :: es := by rw [e3]; exact List.take_left' (by rw [List.length_append (as := ds ++ 46 :: es)]; rfl)
        rw [e]
        walk_at "rd"
        refine ⟨ds, hd, h5, .inr ⟨es, he, e1, e9, rfl, fun H' x => ?_⟩⟩
        have := back H' x
        rw [e3, units_pt] at this
        rw [← e3] at this
        exact this
    walk_at "rd"
    refine w_ix_S (by omega) a0 ?_
    walk_at "rd"
    refine w_iteD (fun c2 => ?_) (fun c2 => ?_)
    · walk_at "rd"
      refine w_cut_from (by omega) (by decide) ?_
      rw [if_pos (by simpa using c2)] at ebody
      rw [ebody] at key
      exact key
    · walk_at "rd"
      rw [if_neg (by simpa using c2)] at ebody
      rw [ebody] at key
      exact key

open SX (S)
open Len
/-! ### dice -/
def sp__law_dice (K : PySem.W.Frag) : Sp := fun vs H Q _ => match vs with
  | [x, y] => ∃ (s : Addr) (ns : List Int) (i : Nat), x = .ref s ∧ y = .int i ∧ SqL K H s (ns.map V.int) ∧ ∀ d H', H d = none → Ext H H' → Die H' d → Q (.ref d) H'
  | _ => False
theorem ok__law_dice {P : Program} {w : World} {K : PySem.W.Frag} {mg : Str → Option Value} {base : Heap} (T : Tx P K mg)  : Has P w K mg base 1 "_law_dice" ["_law_script", "_law_spot"] (sp__law_dice K) := by
  refine Has.mk (k := 0) T.d__law_dice T.g__law_dice sc__law_dice (fun _ _ _ _ _ _ us hl => match us, hl with | [_, _], _ => rfl) (fun vs H Q E h => by rcases vs with _ | ⟨v0, _ | ⟨v1, _ | ⟨v2, rest2⟩⟩⟩ <;> first | rfl | exact h.elim) (fun f cdv A outer s H vs Q E hr hgd h => have hu := hr.units; have hu66 := units66 hr; ⟨_, (pss_cons (ps_set (i := 2) sc__law_dice.nd rfl (.inl rfl) (pe_ifExp (pt_cmpR o_lt (pv 1) (pe_callB (c_len K) (by rfl) T.n_len (by decide +kernel) (pa_cons (pv 0) pa_nil)) (nomark _)) (pe_callTy c_int (by rfl) T.n_int (by decide +kernel) (pa_cons (pe_ix (ixA K) (pv 0) (pv 1) (fun _ _ => rfl)) pa_nil)) (pe_op (o_add K) (pe_op o_mul pe_int (pv 1)) pe_int))) (pss_cons (ps_set (i := 3) sc__law_dice.nd rfl (.inl rfl) (pe_op o_mod (pe_callB (c_max2 rfl) (by rfl) T.n_max (by decide +kernel) (pa_cons pe_int (pa_cons (pe_op o_sub (pe_callB c_abs (by rfl) T.n_abs (by decide +kernel) (pa_cons (pv 2) pa_nil)) (pe_op o_pow pe_int pe_int)) pa_nil))) (pe_op o_mul (pe_op o_pow pe_int pe_int) (pe_op o_pow pe_int pe_int)))) (pss_one (ps_ret (pe_lst (pa_cons (pv 3) (pa_cons (pe_op (o_add K) (pe_op (o_add K) (pe_op (o_add K) (pe_op o_mul (pe_op o_mod (pe_callB c_abs (by rfl) T.n_abs (by decide +kernel) (pa_cons (pv 2) pa_nil)) pe_int) pe_int) (pe_op o_mul pe_int (pv 1))) (pe_op o_mul pe_int (pe_callTy c_int (by rfl) T.n_int (by decide +kernel) (pa_cons (pe_cmpR o_lt (pv 2) pe_int (nomark _)) pa_nil)))) pe_int) (pa_cons pe_int pa_nil)))))))), ?_⟩)
  rcases vs with _ | ⟨v0, _ | ⟨v1, _ | ⟨v2, rest2⟩⟩⟩ <;> try exact h.elim
  rw [show L2.start ["_law_script", "_law_spot", "_law_cell", "_law_left"] [v0, v1] = [some v0, some v1, none, none] from rfl]
  try dsimp only [cx_K]
  obtain ⟨s, ns, i, rfl, rfl, hs, q⟩ := h
  refine w_seq (w_asg (w_hide fun C hC => ?_))
  have key : ∀ c : Int, C (.int c) H := by
    intro c
    rw [hC]
    walk_at "rd"
    refine w_mul_w ?_ ?_
    · unfold CMulW
      decide +kernel
    walk_at "rd"
    refine ⟨fitsB rfl, fun d hd => q d _ hd (ext_upd hd) ⟨_, _, _, ?_, upd_same⟩⟩
    exact Int.emod_nonneg _ (by decide)
  walk_at "rd"
  refine w_len_L hs ?_
  walk_at "rd"
  refine w_iteD (fun c => ?_) (fun c => ?_)
  · walk_at "rd"
    rw [List.length_map] at c
    have hi : i < ns.length := by omega
    refine w_ixL hs (atI_nat (by rw [List.getElem?_map, List.getElem?_eq_getElem hi]; rfl)) ?_
    walk_at "rd"
    exact key _
  · walk_at "rd"
    exact key _
def sp__law_roll (K : PySem.W.Frag) : Sp := fun vs H Q _ => match vs with
  | [x, y] => ∃ (d : Addr) (n : Int), x = .ref d ∧ y = .int n ∧ Die H d ∧ 0 < n ∧ n < 2 ^ 64 ∧ ∀ r H', 0 ≤ r → r < n → ExtD d H H' → Die H' d → Q (.int r) H'
  | _ => False
theorem ok__law_roll {P : Program} {w : World} {K : PySem.W.Frag} {mg : Str → Option Value} {base : Heap} (T : Tx P K mg)  : Has P w K mg base 1 "_law_roll" ["_law_dice_here", "_law_total"] (sp__law_roll K) := by
  refine Has.mk (k := 0) T.d__law_roll T.g__law_roll sc__law_roll (fun _ _ _ _ _ _ us hl => match us, hl with | [_, _], _ => rfl) (fun vs H Q E h => by rcases vs with _ | ⟨v0, _ | ⟨v1, _ | ⟨v2, rest2⟩⟩⟩ <;> first | rfl | exact h.elim) (fun f cdv A outer s H vs Q E hr hgd h => have hu := hr.units; have hu66 := units66 hr; ⟨_, (pss_cons (ps_if (pt_cmpR o_gt (pe_ix (ixA K) (pv 0) pe_int (fun _ _ => rfl)) pe_int (nomark _)) (pss_cons (ps_set (i := 2) sc__law_roll.nd rfl (.inl rfl) (pe_op o_mod (pe_callTy c_int (by rfl) T.n_int (by decide +kernel) (pa_cons (pe_ix (ixA K) (pv 0) pe_int (fun _ _ => rfl)) pa_nil)) (pv 1))) (pss_cons (ps_asg (pe_op o_fd (pe_ix (ixA K) (pv 0) pe_int (fun _ _ => rfl)) (pv 1)) (pg_sub (pv 0) pe_int set_list)) (pss_one (ps_ret (pv 2))))) pss_nil) (pss_cons (ps_asg (pe_op (o_add K) (pe_ix (ixA K) (pv 0) pe_int (fun _ _ => rfl)) pe_int) (pg_sub (pv 0) pe_int set_list)) (pss_cons (ps_set (i := 3) sc__law_roll.nd rfl (.inl rfl) (pe_op o_mod (pe_callTy c_int (by rfl) T.n_int (by decide +kernel) (pa_cons (pe_op (o_add K) (pe_ix (ixA K) (pv 0) pe_int (fun _ _ => rfl)) (pe_op o_mul pe_int (pe_ix (ixA K) (pv 0) pe_int (fun _ _ => rfl)))) pa_nil)) pe_int)) (pss_cons (ps_set (i := 4) sc__law_roll.nd rfl (.inl rfl) (pe_op (o_add K) (pe_op o_mul (pe_op o_mod (pe_callTy c_int (by rfl) T.n_int (by decide +kernel) (pa_cons (pe_op (o_add K) (pe_op o_mul (pv 3) (pv 3)) (pe_op o_mul pe_int (pe_ix (ixA K) (pv 0) pe_int (fun _ _ => rfl)))) pa_nil)) pe_int) pe_int) (pv 3))) (pss_one (ps_ret (pe_op o_mod (pe_callTy c_int (by rfl) T.n_int (by decide +kernel) (pa_cons (pe_op o_fd (pv 4) pe_int) pa_nil)) (pv 1)))))))), ?_⟩)
  rcases vs with _ | ⟨v0, _ | ⟨v1, _ | ⟨v2, rest2⟩⟩⟩ <;> try exact h.elim
  rw [show L2.start ["_law_dice_here", "_law_total", "_law_found", "_law_one", "_law_two"] [v0, v1] = [some v0, some v1, none, none, none] from rfl]
  try dsimp only [cx_K]
  obtain ⟨d, n, rfl, rfl, ⟨a, b, c, ha, hd⟩, h0, h1, q⟩ := h
  have hS := SqL.of (K := K) hd
  have g0 : atI [V.int a, .int b, .int c] 0 = some (.int a) := rfl
  have g1 : atI [V.int a, .int b, .int c] 1 = some (.int b) := rfl
  have g2 : atI [V.int a, .int b, .int c] 2 = some (.int c) := rfl
  have hdv : ∀ x : Int, CDivW x n := fun x => wide_div (b := 65) h0 (by omega) (by decide) (by decide)
  walk_at "rd"
  refine w_ixL hS g0 ?_
  walk_at "rd"
  refine w_iteD (fun ca => ?_) (fun ca => ?_)
  · walk_at "rd"
    refine w_ixL hS g0 ?_
    walk_at "rd"
    refine w_mod h0 ?_
    walk_at "rd"
    refine w_ixL hS g0 ?_
    walk_at "rd"
    refine w_fd (hdv _) ?_
    walk_at "rd"
    refine w_setL hd (j := 0) rfl ?_
    walk_at "rd"
    exact q _ _ (Int.emod_nonneg _ (by omega)) (Int.emod_lt_of_pos _ h0) extD_upd ⟨_, _, _, Int.ediv_nonneg ha (by omega), upd_same⟩
  · walk_at "rd"
    refine w_ixL hS g2 ?_
    walk_at "rd"
    refine w_setL hd (j := 2) rfl ?_
    walk_at "rd"
    have hS' := SqL.of (K := K) (H := upd H d (.lst [.int a, .int b, .int (c + 1)])) upd_same
    refine w_ixL hS' (v := .int b) rfl ?_
    walk_at "rd"
    refine w_ixL hS' (v := .int (c + 1)) rfl ?_
    walk_at "rd"
    refine w_mul_l ?_ ?_
    · have h1 := Int.emod_nonneg (b + 49979737 * (c + 1)) (show (2305843009213693577 : Int) ≠ 0 by decide)
      have h2 := Int.emod_lt_of_pos (b + 49979737 * (c + 1)) (show (0 : Int) < 2305843009213693577 by decide)
      omega
    walk_at "rd"
    refine w_ixL hS' (v := .int (c + 1)) rfl ?_
    walk_at "rd"
    refine w_mod h0 ?_
    exact q _ _ (Int.emod_nonneg _ (by omega)) (Int.emod_lt_of_pos _ h0) extD_upd ⟨_, _, _, ha, upd_same⟩

def sp__law_pick (K : PySem.W.Frag) : Sp := fun vs H Q _ => match vs with
  | [x, y] => ∃ (d : Addr), x = .ref d ∧ Die H d ∧ ((∃ (l : Addr) (xs : List V), y = .ref l ∧ SqL K H l xs ∧ l ≠ d ∧ Nat.ble 1 xs.length = true ∧ Nat.ble xs.length 1000000 = true ∧ ∀ v H', v ∈ xs → ExtD d H H' → Die H' d → Q v H') ∨
      ∃ l : List Nat, y = .str (S l) ∧ Nat.ble 1 l.length = true ∧ Nat.ble l.length 1000000 = true ∧ ∀ c H', c ∈ l → ExtD d H H' → Die H' d → Q (.str (S [c])) H')
  | _ => False
theorem ok__law_pick {P : Program} {w : World} {K : PySem.W.Frag} {mg : Str → Option Value} {base : Heap} (T : Tx P K mg) (h__law_roll : Has P w K mg base 1 "_law_roll" ["_law_dice_here", "_law_total"] (sp__law_roll K)) : Has P w K mg base 2 "_law_pick" ["_law_dice_here", "_law_items"] (sp__law_pick K) := by
  refine Has.mk (k := 1) T.d__law_pick T.g__law_pick sc__law_pick (fun _ _ _ _ _ _ us hl => match us, hl with | [_, _], _ => rfl) (fun vs H Q E h => by rcases vs with _ | ⟨v0, _ | ⟨v1, _ | ⟨v2, rest2⟩⟩⟩ <;> first | rfl | exact h.elim) (fun f cdv A outer s H vs Q E hr hgd h => have hu := hr.units; have hu66 := units66 hr; ⟨_, (pss_one (ps_ret (pe_ix (ixA K) (pv 1) (pe_callH h__law_roll (hr.mono (by decide)) hgd (takes_of rfl rfl rfl rfl) (pa_cons (pv 0) (pa_cons (pe_callB (c_len K) (by rfl) T.n_len (by decide +kernel) (pa_cons (pv 1) pa_nil)) pa_nil))) (fun _ _ => rfl)))), ?_⟩)
  rcases vs with _ | ⟨v0, _ | ⟨v1, _ | ⟨v2, rest2⟩⟩⟩ <;> try exact h.elim
  rw [show L2.start ["_law_dice_here", "_law_items"] [v0, v1] = [some v0, some v1] from rfl]
  try dsimp only [cx_K]
  obtain ⟨d, rfl, hd, h⟩ := h
  rcases h with ⟨l, xs, rfl, hl, ne, h0, h1, q⟩ | ⟨l, rfl, h0, h1, q⟩
  · have h0 := Nat.le_of_ble_eq_true h0
    have h1 := Nat.le_of_ble_eq_true h1
    walk_at "rd"
    refine w_len_L hl ?_
    walk_at "rd"
    refine ⟨d, _, rfl, rfl, hd, by omega, by omega, fun r H' r0 r1 x hd' => ?_⟩
    have hr : r.toNat < xs.length := by omega
    have er : r = (r.toNat : Int) := by omega
    rw [er]
    refine w_ixL (sqL_D x hl ne) (atI_nat (List.getElem?_eq_getElem hr)) ?_
    exact q _ _ (List.getElem_mem hr) x hd'
  · have h0 := Nat.le_of_ble_eq_true h0
    have h1 := Nat.le_of_ble_eq_true h1
    walk_at "rd"
    refine w_len_S h1 ?_
    walk_at "rd"
    refine ⟨d, _, rfl, rfl, hd, by omega, by omega, fun r H' r0 r1 x hd' => ?_⟩
    have hr : r.toNat < l.length := by omega
    refine w_ix_S h1 (atN r0 (List.getElem?_eq_getElem hr)) ?_
    exact q _ _ (List.getElem_mem hr) x hd'

def sp__law_nearest (K : PySem.W.Frag) : Sp := fun vs H Q _ => match vs with
  | [x, y] => ∃ a b, x = .int a ∧ y = .int b ∧ 0 < b ∧ b < 10 ^ 60 ∧ Q (.int (rnd a b)) H
  | _ => False
theorem ok__law_nearest {P : Program} {w : World} {K : PySem.W.Frag} {mg : Str → Option Value} {base : Heap} (T : Tx P K mg)  : Has P w K mg base 1 "_law_nearest" ["_law_number", "_law_by"] (sp__law_nearest K) := by
  refine Has.mk (k := 0) T.d__law_nearest T.g__law_nearest sc__law_nearest (fun _ _ _ _ _ _ us hl => match us, hl with | [_, _], _ => rfl) (fun vs H Q E h => by rcases vs with _ | ⟨v0, _ | ⟨v1, _ | ⟨v2, rest2⟩⟩⟩ <;> first | rfl | exact h.elim) (fun f cdv A outer s H vs Q E hr hgd h => have hu := hr.units; have hu66 := units66 hr; ⟨_, (pss_cons (ps_set (i := 2) sc__law_nearest.nd rfl (.inl rfl) (pe_op o_fd (pe_op (o_add K) (pe_op o_mul pe_int (pe_callB c_abs (by rfl) T.n_abs (by decide +kernel) (pa_cons (pv 0) pa_nil))) (pv 1)) (pe_op o_mul pe_int (pv 1)))) (pss_one (ps_ret (pe_ifExp (pt_cmpR o_ge (pv 0) pe_int (nomark _)) (pv 2) (pe_op o_sub pe_int (pv 2)))))), ?_⟩)
  rcases vs with _ | ⟨v0, _ | ⟨v1, _ | ⟨v2, rest2⟩⟩⟩ <;> try exact h.elim
  rw [show L2.start ["_law_number", "_law_by", "_law_found"] [v0, v1] = [some v0, some v1, none] from rfl]
  try dsimp only [cx_K]
  obtain ⟨a, b, rfl, rfl, h1, h2, q⟩ := h
  walk_at "rd"
  refine w_fd (div_ok h1 h2) ?_
  walk_at "rd"
  refine w_iteD (fun c => ?_) (fun c => ?_)
  · walk_at "rd"
    rw [rnd, if_pos c] at q
    exact q
  · walk_at "rd"
    rw [rnd, if_neg c, ← Int.zero_sub] at q
    exact q
def sp__law_points_told (K : PySem.W.Frag) : Sp := fun vs H Q _ => match vs with
  | [x] => ∃ ds, digs ds ∧ ds.length ≤ 5 ∧ ((1 ≤ ds.length ∧ x = .str (S ds) ∧ ∀ H', Ext H H' → Q (.int (pts ds)) H') ∨ ∃ es, digs es ∧ 1 ≤ es.length ∧ es.length ≤ 9 ∧ x = .str (S (ds ++ 46 :: es)) ∧ ∀ H', Ext H H' → Q (.int (pts (ds ++ 46 :: es))) H')
  | _ => False
theorem digs_in {l : List Nat} (h : digs l) : ∀ c ∈ l, c ∈ [48, 49, 50, 51, 52, 53, 54, 55, 56, 57] := by
  intro c hc
  have := h c hc
  rw [← in_figs] at this
  exact of_decide_eq_true this
theorem digs_in2 {l : List Nat} (h : digs l) : ∀ c ∈ l, c ∈ [48, 49, 50, 51, 52, 53, 54, 55, 56, 57, 46] := by
  intro c hc
  have := digs_in h c hc
  simp only [List.mem_cons, List.not_mem_nil, or_false] at this ⊢
  omega
theorem spl1 {ds : List Nat} (h : digs ds) : TL.spl [46] 0 [] ds = [ds] := TL.spl_last1 (no46 h)
theorem spl2 {ds es : List Nat} (h : digs ds) (h2 : digs es) : TL.spl [46] 0 [] (ds ++ 46 :: es) = [ds, es] := by
  have := TL.spl_part1 (S := []) (rest := es) (acc := []) (no46 h)
  rw [TL.spl_last1 (no46 h2)] at this
  exact this
theorem ok__law_points_told {P : Program} {w : World} {K : PySem.W.Frag} {mg : Str → Option Value} {base : Heap} (T : Tx P K mg) (h__law_nearest : Has P w K mg base 1 "_law_nearest" ["_law_number", "_law_by"] (sp__law_nearest K)) : Has P w K mg base 2 "_law_points_told" ["_law_number"] (sp__law_points_told K) := by
  refine Has.mk (k := 1) T.d__law_points_told T.g__law_points_told sc__law_points_told (fun _ _ _ _ _ _ us hl => match us, hl with | [_], _ => rfl) (fun vs H Q E h => by rcases vs with _ | ⟨v0, _ | ⟨v1, rest1⟩⟩ <;> first | rfl | exact h.elim) (fun f cdv A outer s H vs Q E hr hgd h => have hu := hr.units; have hu66 := units66 hr; ⟨_, (pss_cons (ps_set (i := 1) sc__law_points_told.nd rfl (.inl rfl) (pe_bm PySem.F.plainAttrs_str PySem.F.slot_str_split PySem.F.type_str_split m_split (pv 0) (pa_cons (pe_S [46] rfl) pa_nil))) (pss_cons (ps_if (PW.pt (pw_or (pt_cmpR o_gt (pe_callB (c_len K) (by rfl) T.n_len (by decide +kernel) (pa_cons (pv 1) pa_nil)) pe_int (nomark _)) (pw_or (pt_cmpR o_gt (pe_callB (c_len K) (by rfl) T.n_len (by decide +kernel) (pa_cons (pe_ix (ixA K) (pv 1) pe_int (fun _ _ => rfl)) pa_nil)) pe_int (nomark _)) (pw_or1 (pt_cmpR (o_ne K hu) (pe_bm PySem.F.plainAttrs_str PySem.F.slot_str_strip PySem.F.type_str_strip m_strip (pv 0) (pa_cons (pe_S [48, 49, 50, 51, 52, 53, 54, 55, 56, 57, 46] rfl) pa_nil)) (pe_S [] rfl) (nomark _)))))) (pss_one (ps_ret pe_non)) pss_nil) (pss_cons (ps_if (pt_cmpR (o_eq K hu) (pe_callB (c_len K) (by rfl) T.n_len (by decide +kernel) (pa_cons (pv 1) pa_nil)) pe_int (nomark _)) (pss_one (ps_ret (pe_ifExp (pt_cmpR (o_ne K hu) (pv 0) (pe_S [] rfl) (nomark _)) (pe_op o_mul (pe_callTy c_int (by rfl) T.n_int (by decide +kernel) (pa_cons (pv 0) pa_nil)) pe_int) pe_non))) pss_nil) (pss_cons (ps_if (pt_not (pt_chain o_le o_le pe_int (pe_callB (c_len K) (by rfl) T.n_len (by decide +kernel) (pa_cons (pe_ix (ixA K) (pv 1) pe_int (fun _ _ => rfl)) pa_nil)) pe_int)) (pss_one (ps_ret pe_non)) pss_nil) (pss_one (ps_ret (pe_callH h__law_nearest (hr.mono (by decide)) hgd (takes_of rfl rfl rfl rfl) (pa_cons (pe_op o_mul (pe_callTy c_int (by rfl) T.n_int (by decide +kernel) (pa_cons (pe_op (o_add K) (pe_op (o_add K) (pe_S [48] rfl) (pe_ix (ixA K) (pv 1) pe_int (fun _ _ => rfl))) (pe_ix (ixA K) (pv 1) pe_int (fun _ _ => rfl))) pa_nil)) pe_int) (pa_cons (pe_callTy c_int (by rfl) T.n_int (by decide +kernel) (pa_cons (pe_op (o_add K) (pe_S [49] rfl) (pe_op o_mul (pe_S [48] rfl) (pe_callB (c_len K) (by rfl) T.n_len (by decide +kernel) (pa_cons (pe_ix (ixA K) (pv 1) pe_int (fun _ _ => rfl)) pa_nil)))) pa_nil)) pa_nil))))))))), ?_⟩)
  rcases vs with _ | ⟨v0, _ | ⟨v1, rest1⟩⟩ <;> try exact h.elim
  rw [show L2.start ["_law_number", "_law_parts"] [v0] = [some v0, none] from rfl]
  try dsimp only [cx_K]
  obtain ⟨ds, hd, h5, h⟩ := h
  rcases h with ⟨h1, rfl, q⟩ | ⟨es, he, e1, e9, rfl, q⟩
  · walk_at "rd"
    refine w_split (by omega) (by decide) fun p H1 n1 x1 p1 => ?_
    rw [spl1 hd] at p1
    have S1 := SqL.of (K := K) p1
    walk_at "rd"
    refine w_len_L S1 ?_
    walk_at "rd"
    refine w_ixL S1 (v := .str (S ds)) rfl ?_
    walk_at "rd"
    refine w_len_S (by omega) ?_
    walk_at "rd"
    refine w_iteDf (by omega) ?_
    walk_at "rd"
    refine w_strip_all (by omega) (digs_in2 hd) ?_
    walk_at "rd"
    refine w_len_L S1 ?_
    walk_at "rd"
    refine w_iteDf (by intro z; rw [z] at h1; simp at h1) ?_
    walk_at "rd"
    refine w_int_S (digs_all hd) (by intro z; rw [z] at h1; simp at h1) (by omega) ?_
    walk_at "rd"
    have := q H1 x1
    rw [pts_p hd] at this
    exact this
  · walk_at "rd"
    refine w_split (by simp; omega) (by decide) fun p H1 n1 x1 p1 => ?_
    rw [spl2 hd he] at p1
    have S1 := SqL.of (K := K) p1
    walk_at "rd"
    refine w_len_L S1 ?_
    walk_at "rd"
    refine w_ixL S1 (v := .str (S ds)) rfl ?_
    walk_at "rd"
    refine w_len_S (by omega) ?_
    walk_at "rd"
    refine w_iteDf (by omega) ?_
    walk_at "rd"
    refine w_strip_all (by simp; omega) ?_ ?_
    · intro c hc
      rcases List.mem_append.mp hc with hc | hc
      · exact digs_in2 hd c hc
      · rcases List.mem_cons.mp hc with rfl | hc
        · decide
        · exact digs_in2 he c hc
    walk_at "rd"
    refine w_len_L S1 ?_
    walk_at "rd"
    refine w_ixL S1 (v := .str (S es)) rfl ?_
    walk_at "rd"
    refine w_len_S (by omega) ?_
    walk_at "rd"
    refine w_iteDt (by omega) ?_
    walk_at "rd"
    refine w_iteDt (by omega) ?_
    walk_at "rd"
    refine w_ixL S1 (v := .str (S ds)) rfl ?_
    walk_at "rd"
    refine w_add_S (by simp; omega) ?_
    walk_at "rd"
    refine w_ixL S1 (v := .str (S es)) rfl ?_
    walk_at "rd"
    refine w_add_S (by simp; omega) ?_
    walk_at "rd"
    refine w_int_S (digs_all (digs_app (digs_cons rfl hd) he)) (by simp) (by simp; omega) ?_
    walk_at "rd"
    refine w_ixL S1 (v := .str (S es)) rfl ?_
    walk_at "rd"
    refine w_len_S (by omega) ?_
    walk_at "rd"
    refine w_mul_S (by omega) ?_
    refine w_add_S (by simp; omega) ?_
    walk_at "rd"
    refine w_int_S (digs_all (digs_cons rfl (digs_zeros _))) (by simp) (by simp; omega) ?_
    walk_at "rd"
    have e : (NumText.digitsVal ([49] ++ List.replicate es.length 48) : Nat) = 10 ^ es.length := dv_zeros es.length
    rw [e]
    have pb := pow_bd e9
    have ep : ((10 ^ es.length : Nat) : Int) = 10 ^ es.length := by simp
    rw [ep]
    refine ⟨_, _, rfl, rfl, pb.1, pb.2, ?_⟩
    have := q H1 x1
    rw [pts_d hd] at this
    exact this

open SX (S)
open Len
def sp__law_units_told (K : PySem.W.Frag) : Sp := fun vs H Q _ => match vs with
  | [x] => ∃ w, x = .str (S w) ∧ w.length ≤ 1000 ∧ ((Shp w ∧ ∀ H', Ext H H' → Q (.int (units w)) H') ∨ (w.drop (w.length - 1) ≠ [117] ∧ w.drop (w.length - 2) ≠ [112, 116] ∧ Q .non H))
  | _ => False
theorem ok__law_units_told {P : Program} {w : World} {K : PySem.W.Frag} {mg : Str → Option Value} {base : Heap} (T : Tx P K mg) (h__law_points_told : Has P w K mg base 2 "_law_points_told" ["_law_number"] (sp__law_points_told K)) : Has P w K mg base 3 "_law_units_told" ["_law_word"] (sp__law_units_told K) := by
  refine Has.mk (k := 2) T.d__law_units_told T.g__law_units_told sc__law_units_told (fun _ _ _ _ _ _ us hl => match us, hl with | [_], _ => rfl) (fun vs H Q E h => by rcases vs with _ | ⟨v0, _ | ⟨v1, rest1⟩⟩ <;> first | rfl | exact h.elim) (fun f cdv A outer s H vs Q E hr hgd h => have hu := hr.units; have hu66 := units66 hr; ⟨_, (pss_cons (ps_if (pt_cmpR (o_eq K hu) (pe_slice (sl_any K) (pv 0) (po_some (pe_un un_neg pe_int)) po_none) (pe_S [117] rfl) (nomark _)) (pss_cons (ps_set (i := 1) sc__law_units_told.nd rfl (.inl rfl) (pe_slice (sl_any K) (pv 0) po_none (po_some (pe_un un_neg pe_int)))) (pss_cons (ps_if (PW.pt (pw_or (pt_not (pt_chain o_le o_le pe_int (pe_callB (c_len K) (by rfl) T.n_len (by decide +kernel) (pa_cons (pv 1) pa_nil)) pe_int)) (pw_or1 (pt_cmpR (o_ne K hu) (pe_bm PySem.F.plainAttrs_str PySem.F.slot_str_strip PySem.F.type_str_strip m_strip (pv 1) (pa_cons (pe_S [48, 49, 50, 51, 52, 53, 54, 55, 56, 57] rfl) pa_nil)) (pe_S [] rfl) (nomark _))))) (pss_one (ps_ret pe_non)) pss_nil) (pss_one (ps_ret (pe_callTy c_int (by rfl) T.n_int (by decide +kernel) (pa_cons (pv 1) pa_nil)))))) pss_nil) (pss_cons (ps_if (pt_cmpR (o_ne K hu) (pe_slice (sl_any K) (pv 0) (po_some (pe_un un_neg pe_int)) po_none) (pe_S [112, 116] rfl) (nomark _)) (pss_one (ps_ret pe_non)) pss_nil) (pss_one (ps_ret (pe_callH h__law_points_told (hr.mono (by decide)) hgd (takes_of rfl rfl rfl rfl) (pa_cons (pe_slice (sl_any K) (pv 0) po_none (po_some (pe_un un_neg pe_int))) pa_nil)))))), ?_⟩)
  rcases vs with _ | ⟨v0, _ | ⟨v1, rest1⟩⟩ <;> try exact h.elim
  rw [show L2.start ["_law_word", "_law_digits_here"] [v0] = [some v0, none] from rfl]
  try dsimp only [cx_K]
  obtain ⟨w, rfl, hl, h⟩ := h
  walk_at "rd"
  refine w_cut_fromN (k := 1) (by omega) rfl (by omega) ?_
  walk_at "rd"
  rcases h with ⟨hS, q⟩ | ⟨h1, h2, q⟩
  · cases hS with
    | u ds hd h1 h2 =>
      refine w_iteDt (by simp) ?_
      walk_at "rd"
      refine w_cut_toN (k := 1) (by omega) rfl (by omega) ?_
      have e : (ds ++ [117]).take ((ds ++ [117]).length - 1) = ds := by simp
      rw [e]
      walk_at "rd"
      refine w_len_S (by omega) ?_
      walk_at "rd"
      refine w_iteDt (by omega) ?_
      walk_at "rd"
      refine w_iteDt (by omega) ?_
      walk_at "rd"
      refine w_strip_all (by omega) (digs_in hd) ?_
      walk_at "rd"
      refine w_int_S (digs_all hd) (by intro z; rw [z] at h1; simp at h1) (by omega) ?_
      have := q H Ext.refl
      rw [units_u] at this
      exact this
    | p ds hd h1 h2 =>
      refine w_iteDf (by simp) ?_
      walk_at "rd"
      refine w_cut_fromN (k := 2) (by omega) rfl (by omega) ?_
      walk_at "rd"
      refine w_iteDt (by simp) ?_
      walk_at "rd"
      refine w_cut_toN (k := 2) (by omega) rfl (by omega) ?_
      have e : (ds ++ [112, 116]).take ((ds ++ [112, 116]).length - 2) = ds := by simp
      rw [e]
      walk_at "rd"
      refine ⟨ds, hd, h2, .inl ⟨h1, rfl, fun H' x => ?_⟩⟩
      have := q H' x
      rw [units_pt] at this
      exact this
    | d ds es hd h5 he e1 e9 =>
      have e3 : ds ++ 46 :: (es ++ [112, 116]) = (ds ++ 46 :: es) ++ [112, 116] := by simp
      have dl : ∀ p : List Nat, (p ++ [112, 116]).drop ((p ++ [112, 116]).length - 1) = [116] := by intro p; simp
      have dl2 : ∀ p : List Nat, (p ++ [112, 116]).drop ((p ++ [112, 116]).length - 2) = [112, 116] := by intro p; simp
      refine w_iteDf (by rw [e3, dl]; decide) ?_
      walk_at "rd"
      refine w_cut_fromN (k := 2) (by omega) rfl (by omega) ?_
      walk_at "rd"
      refine w_iteDt (by rw [e3, dl2]) ?_
      walk_at "rd"
      refine w_cut_toN (k := 2) (by omega) rfl (by omega) ?_
      have e : (ds ++ 46 :: (es ++ [112, 116])).take ((ds ++ 46 :: (es ++ [112, 116])).length - 2) = ds ++ 46 :: es := by rw [e3]; exact List.take_left' (by rw [List.length_append (as := ds ++ 46 :: es)]; rfl)
      rw [e]
      walk_at "rd"
      refine ⟨ds, hd, h5, .inr ⟨es, he, e1, e9, rfl, fun H' x => ?_⟩⟩
      have := q H' x
      rw [e3, units_pt] at this
      exact this
  · refine w_iteDf h1 ?_
    walk_at "rd"
    refine w_cut_fromN (k := 2) (by omega) rfl (by omega) ?_
    walk_at "rd"
    refine w_iteDf h2 ?_
    walk_at "rd"
    exact q
def sp__law_digits (K : PySem.W.Frag) : Sp := fun vs H Q _ => match vs with
  | [x, y, z] => ∃ (d : Addr) (a b : Nat), x = .ref d ∧ y = .int a ∧ z = .int b ∧ Die H d ∧ a ≤ b ∧ b ≤ 20 ∧ ∀ ds H', digs ds → a ≤ ds.length → ds.length ≤ b → ExtD d H H' → Die H' d → Q (.str (S ds)) H'
  | _ => False
theorem flat_ones : ∀ ds : List Nat, (ds.map fun c => [c]).flatten = ds
  | [] => rfl
  | c :: ds => by simp [flat_ones ds]
theorem ok__law_digits {P : Program} {w : World} {K : PySem.W.Frag} {mg : Str → Option Value} {base : Heap} (T : Tx P K mg) (h__law_pick : Has P w K mg base 2 "_law_pick" ["_law_dice_here", "_law_items"] (sp__law_pick K)) (h__law_roll : Has P w K mg base 1 "_law_roll" ["_law_dice_here", "_law_total"] (sp__law_roll K)) : Has P w K mg base 3 "_law_digits" ["_law_dice_here", "_law_least", "_law_most"] (sp__law_digits K) := by
  refine Has.mk (k := 2) T.d__law_digits T.g__law_digits sc__law_digits (fun _ _ _ _ _ _ us hl => match us, hl with | [_, _, _], _ => rfl) (fun vs H Q E h => by rcases vs with _ | ⟨v0, _ | ⟨v1, _ | ⟨v2, _ | ⟨v3, rest3⟩⟩⟩⟩ <;> first | rfl | exact h.elim) (fun f cdv A outer s H vs Q E hr hgd h => have hu := hr.units; have hu66 := units66 hr; ⟨_, (pss_cons (ps_set (i := 3) sc__law_digits.nd rfl (.inl rfl) (pe_op (o_add K) (pv 1) (pe_callH h__law_roll (hr.mono (by decide)) hgd (takes_of rfl rfl rfl rfl) (pa_cons (pv 0) (pa_cons (pe_op o_sub (pe_op (o_add K) (pv 2) pe_int) (pv 1)) pa_nil))))) (pss_one (ps_ret (pe_bm PySem.F.plainAttrs_str PySem.F.slot_str_join PySem.F.type_str_join (m_join K) (pe_S [] rfl) (pa_cons (pe_lc rfl sc__law_digits.nd (pi_range1 (by rfl) T.n_range (pa_cons (pv 3) pa_nil)) (blkOk_by (own := [("_law_turn", 4)]) (N := ["_law_dice_here", "_law_least", "_law_most", "_law_many", "_law_turn"]) (sc := defScope (top 29)) (by decide +kernel)) (fun _ _ _ _ _ => (pg_name (i := 4) sc__law_digits.nd rfl (by first | exact .inl rfl | exact .inr rfl))) (fun _ _ _ _ _ => pts_nil) (fun _ _ _ _ _ => (pe_callH h__law_pick (hr.mono (by decide)) hgd tk0 (pa_cons (pv 0) (pa_cons (pe_S [48, 49, 50, 51, 52, 53, 54, 55, 56, 57] rfl) pa_nil))))) pa_nil))))), ?_⟩)
  rcases vs with _ | ⟨v0, _ | ⟨v1, _ | ⟨v2, _ | ⟨v3, rest3⟩⟩⟩⟩ <;> try exact h.elim
  rw [show L2.start ["_law_dice_here", "_law_least", "_law_most", "_law_many", "_law_turn"] [v0, v1, v2] = [some v0, some v1, some v2, none, none] from rfl]
  try dsimp only [cx_K]
  obtain ⟨d, a, b, rfl, rfl, rfl, hd, hab, hb, q⟩ := h
  walk_at "rd"
  refine ⟨d, _, rfl, rfl, hd, by omega, by omega, fun r H1 r0 r1 x1 d1 => ?_⟩
  walk_at "rd"
  refine w_rng1v (by omega) (by omega) ?_
  have en : ((a : Int) + r).toNat = a + r.toNat := by omega
  rw [en]
  refine w_lcI walk_range (fun i D H' => ∃ ds, digs ds ∧ ds.length = i ∧ H' D = some (.lst (ds.map fun c => V.str (S [c]))) ∧ ExtD d H1 H' ∧ Die H' d) ?_ (fun _ _ _ _ _ => trivial) ?_ ?_
  · intro D hD
    exact ⟨[], (fun x hx => by cases hx), rfl, upd_same, (ext_upd hD).d, d1.ext (ext_upd hD)⟩
  · rintro D i x H' H'' hD hi ⟨ds, h1, h2, h3, h4, h5⟩ y
    obtain ⟨rfl, rfl⟩ := y
    have nD : D ≠ d := d1.ne hD
    walk_at "rd"
    refine ⟨rfl, ?_⟩
    walk_at "rd"
    refine ⟨d, rfl, h5, .inr ⟨_, rfl, rfl, rfl, fun c H3 hc x3 d3 => ?_⟩⟩
    refine ⟨_, x3 _ _ nD h3, by rw [List.length_map, sizeLine_eq]; omega, ds ++ [c], digs_app h1 (digs_cons ?_ (fun x hx => by cases hx)), by simp [h2], ?_, ?_, ?_⟩
    · rw [← in_figs]
      exact decide_eq_true hc
    · rw [upd_same, List.map_append]
      rfl
    · exact fun a o na e => by
        rw [upd_ne (ne_of_none e hD)]
        exact x3 _ _ na (h4 _ _ na e)
    · exact d3.extD extD_upd nD.symm
  · rintro D H' hD ⟨ds, h1, h2, h3, h4, h5⟩
    walk_at "rd"
    refine w_join0 (ys := ds.map fun c => [c]) (by rw [List.map_map]; exact SqL.of h3) (by rw [flat_ones]; omega) ?_
    rw [flat_ones]
    exact q ds H' h1 (by omega) (by omega) (x1.trans h4) h5

open SX (S)
open Len
def sp__law_drawn_text (K : PySem.W.Frag) : Sp := fun vs H Q _ => match vs with
  | [x] => ∃ (d : Addr), x = .ref d ∧ Die H d ∧ ∀ l H', 1 ≤ l.length → l.length ≤ 60 → ExtD d H H' → Die H' d → Q (.str (S l)) H'
  | _ => False
theorem ok__law_drawn_text {P : Program} {w : World} {K : PySem.W.Frag} {mg : Str → Option Value} {base : Heap} (T : Tx P K mg) (h__law_roll : Has P w K mg base 1 "_law_roll" ["_law_dice_here", "_law_total"] (sp__law_roll K)) (h__law_digits : Has P w K mg base 3 "_law_digits" ["_law_dice_here", "_law_least", "_law_most"] (sp__law_digits K)) (h__law_pick : Has P w K mg base 2 "_law_pick" ["_law_dice_here", "_law_items"] (sp__law_pick K)) : Has P w K mg base 4 "_law_drawn_text" ["_law_dice_here"] (sp__law_drawn_text K) := by
  refine Has.mk (k := 3) T.d__law_drawn_text T.g__law_drawn_text sc__law_drawn_text (fun _ _ _ _ _ _ us hl => match us, hl with | [_], _ => rfl) (fun vs H Q E h => by rcases vs with _ | ⟨v0, _ | ⟨v1, rest1⟩⟩ <;> first | rfl | exact h.elim) (fun f cdv A outer s H vs Q E hr hgd h => have hu := hr.units; have hu66 := units66 hr; ⟨_, (pss_cons (ps_set (i := 1) sc__law_drawn_text.nd rfl (.inl rfl) (pe_callH h__law_pick (hr.mono (by decide)) hgd (takes_of rfl rfl rfl rfl) (pa_cons (pv 0) (pa_cons (pe_lst (pa_cons (pe_S [] rfl) (pa_cons (pe_S [] rfl) (pa_cons (pe_S [45] rfl) pa_nil)))) pa_nil)))) (pss_cons (ps_set (i := 2) sc__law_drawn_text.nd rfl (.inl rfl) (pe_callH h__law_roll (hr.mono (by decide)) hgd (takes_of rfl rfl rfl rfl) (pa_cons (pv 0) (pa_cons pe_int pa_nil)))) (pss_cons (ps_if (pt_cmpR (o_eq K hu) (pv 2) pe_int (nomark _)) (pss_one (ps_ret (pe_op (o_add K) (pe_op (o_add K) (pv 1) (pe_callH h__law_digits (hr.mono (by decide)) hgd (takes_of rfl rfl rfl rfl) (pa_cons (pv 0) (pa_cons pe_int (pa_cons pe_int pa_nil))))) (pe_S [117] rfl)))) pss_nil) (pss_cons (ps_if (pt_cmpR (o_eq K hu) (pv 2) pe_int (nomark _)) (pss_one (ps_ret (pe_op (o_add K) (pe_op (o_add K) (pv 1) (pe_callH h__law_digits (hr.mono (by decide)) hgd (takes_of rfl rfl rfl rfl) (pa_cons (pv 0) (pa_cons pe_int (pa_cons pe_int pa_nil))))) (pe_S [112, 116] rfl)))) pss_nil) (pss_cons (ps_if (pt_cmpR (o_eq K hu) (pv 2) pe_int (nomark _)) (pss_one (ps_ret (pe_op (o_add K) (pe_op (o_add K) (pe_op (o_add K) (pe_op (o_add K) (pv 1) (pe_callH h__law_digits (hr.mono (by decide)) hgd (takes_of rfl rfl rfl rfl) (pa_cons (pv 0) (pa_cons pe_int (pa_cons pe_int pa_nil))))) (pe_S [46] rfl)) (pe_callH h__law_digits (hr.mono (by decide)) hgd (takes_of rfl rfl rfl rfl) (pa_cons (pv 0) (pa_cons pe_int (pa_cons pe_int pa_nil))))) (pe_S [112, 116] rfl)))) pss_nil) (pss_one (ps_ret (pe_op (o_add K) (pe_op (o_add K) (pe_op (o_add K) (pe_op (o_add K) (pv 1) (pe_callTy c_str (by rfl) T.n_str (by decide +kernel) (pa_cons (pe_callH h__law_roll (hr.mono (by decide)) hgd (takes_of rfl rfl rfl rfl) (pa_cons (pv 0) (pa_cons pe_int pa_nil))) pa_nil))) (pe_S [46] rfl)) (pe_callH h__law_digits (hr.mono (by decide)) hgd (takes_of rfl rfl rfl rfl) (pa_cons (pv 0) (pa_cons pe_int (pa_cons pe_int pa_nil))))) (pe_S [112, 116] rfl))))))))), ?_⟩)
  rcases vs with _ | ⟨v0, _ | ⟨v1, rest1⟩⟩ <;> try exact h.elim
  rw [show L2.start ["_law_dice_here", "_law_sign", "_law_way"] [v0] = [some v0, none, none] from rfl]
  try dsimp only [cx_K]
  obtain ⟨d, rfl, hd, q⟩ := h
  walk_at "rd"
  refine w_newL (by rfl) fun p H0 n0 x0 h0 _ => ?_
  walk_at "rd"
  refine ⟨d, rfl, hd.ext x0, .inl ⟨p, _, rfl, SqL.of h0, hd.ne n0, by rfl, by rfl, fun v H1 m1 x1 d1 => ?_⟩⟩
  obtain ⟨sg, rfl, hsg⟩ : ∃ sg : List Nat, v = .str (S sg) ∧ sg.length ≤ 1 := by
    simp only [List.mem_cons, List.not_mem_nil, or_false] at m1
    rcases m1 with rfl | rfl | rfl
    · exact ⟨[], rfl, by decide⟩
    · exact ⟨[], rfl, by decide⟩
    · exact ⟨[45], rfl, by decide⟩
  walk_at "rd"
  refine ⟨d, 4, rfl, rfl, d1, by decide, by decide, fun r H2 r0 r1 x2 d2 => ?_⟩
  walk_at "rd"
  have x02 : ExtD d H H2 := (x0.d.trans x1).trans x2
  refine w_iteD (fun c => ?_) (fun c => ?_)
  · walk_at "rd"
    refine ⟨d, 1, 10, rfl, rfl, rfl, d2, by decide, by decide, fun ds H3 e1 e2 e3 x3 d3 => ?_⟩
    refine w_add_S (by omega) ?_
    walk_at "rd"
    refine w_add_S (by walk_at "len") ?_
    exact q _ _ (by walk_at "len") (by walk_at "len") (x02.trans x3) d3
  walk_at "rd"
  refine w_iteD (fun c => ?_) (fun c => ?_)
  · walk_at "rd"
    refine ⟨d, 1, 5, rfl, rfl, rfl, d2, by decide, by decide, fun ds H3 e1 e2 e3 x3 d3 => ?_⟩
    refine w_add_S (by omega) ?_
    walk_at "rd"
    refine w_add_S (by walk_at "len") ?_
    exact q _ _ (by walk_at "len") (by walk_at "len") (x02.trans x3) d3
  walk_at "rd"
  refine w_iteD (fun c => ?_) (fun c => ?_)
  · walk_at "rd"
    refine ⟨d, 0, 4, rfl, rfl, rfl, d2, by decide, by decide, fun ds H3 e1 e2 e3 x3 d3 => ?_⟩
    refine w_add_S (by omega) ?_
    walk_at "rd"
    refine w_add_S (by walk_at "len") ?_
    walk_at "rd"
    refine ⟨d, 1, 9, rfl, rfl, rfl, d3, by decide, by decide, fun es H4 e4 e5 e6 x4 d4 => ?_⟩
    refine w_add_S (by walk_at "len") ?_
    walk_at "rd"
    refine w_add_S (by walk_at "len") ?_
    exact q _ _ (by walk_at "len") (by walk_at "len") ((x02.trans x3).trans x4) d4
  walk_at "rd"
  refine ⟨d, 16400, rfl, rfl, d2, by decide, by decide, fun n H3 n0 n1 x3 d3 => ?_⟩
  walk_at "rd"
  have en : n = (n.toNat : Int) := by omega
  rw [en]
  have hn : n.toNat < 10 ^ 5 := by omega
  generalize n.toNat = m at hn
  refine w_str_n (Nat.lt_trans hn (by decide)) ?_
  have hz := TL.numL_len (by decide) hn
  refine w_add_S (by omega) ?_
  walk_at "rd"
  refine w_add_S (by walk_at "len") ?_
  walk_at "rd"
  refine ⟨d, 1, 3, rfl, rfl, rfl, d3, by decide, by decide, fun es H4 e4 e5 e6 x4 d4 => ?_⟩
  refine w_add_S (by walk_at "len") ?_
  walk_at "rd"
  refine w_add_S (by walk_at "len") ?_
  exact q _ _ (by walk_at "len") (by walk_at "len") ((x02.trans x3).trans x4) d4
def sp__law_bent (K : PySem.W.Frag) : Sp := fun vs H Q _ => match vs with
  | [x, y] => ∃ (d : Addr) (l : List Nat), x = .ref d ∧ y = .str (S l) ∧ Die H d ∧ 1 ≤ l.length ∧ l.length ≤ 60 ∧ ∀ l' H', l'.length ≤ 100 → ExtD d H H' → Die H' d → Q (.str (S l')) H'
  | _ => False
theorem ok__law_bent {P : Program} {w : World} {K : PySem.W.Frag} {mg : Str → Option Value} {base : Heap} (T : Tx P K mg) (h__law_roll : Has P w K mg base 1 "_law_roll" ["_law_dice_here", "_law_total"] (sp__law_roll K)) (h__law_pick : Has P w K mg base 2 "_law_pick" ["_law_dice_here", "_law_items"] (sp__law_pick K)) : Has P w K mg base 3 "_law_bent" ["_law_dice_here", "_law_text"] (sp__law_bent K) := by
  refine Has.mk (k := 2) T.d__law_bent T.g__law_bent sc__law_bent (fun _ _ _ _ _ _ us hl => match us, hl with | [_, _], _ => rfl) (fun vs H Q E h => by rcases vs with _ | ⟨v0, _ | ⟨v1, _ | ⟨v2, rest2⟩⟩⟩ <;> first | rfl | exact h.elim) (fun f cdv A outer s H vs Q E hr hgd h => have hu := hr.units; have hu66 := units66 hr; ⟨_, (pss_cons (ps_par (i := 2) (j := 3) (by rfl) sc__law_bent.nd rfl rfl (by decide) rfl rfl (pa_cons (pe_callH h__law_roll (hr.mono (by decide)) hgd (takes_of rfl rfl rfl rfl) (pa_cons (pv 0) (pa_cons (pe_callB (c_len K) (by rfl) T.n_len (by decide +kernel) (pa_cons (pv 1) pa_nil)) pa_nil))) (pa_cons (pe_callH h__law_pick (hr.mono (by decide)) hgd (takes_of rfl rfl rfl rfl) (pa_cons (pv 0) (pa_cons (pe_S [48, 49, 57, 53, 46, 45, 112, 116, 117, 32, 102, 105, 108] rfl) pa_nil))) pa_nil)) (by rfl)) (pss_cons (ps_set (i := 4) sc__law_bent.nd rfl (.inl rfl) (pe_callH h__law_roll (hr.mono (by decide)) hgd (takes_of rfl rfl rfl rfl) (pa_cons (pv 0) (pa_cons pe_int pa_nil)))) (pss_cons (ps_if (pt_cmpR (o_eq K hu) (pv 4) pe_int (nomark _)) (pss_one (ps_ret (pe_op (o_add K) (pe_op (o_add K) (pe_slice (sl_any K) (pv 1) po_none (po_some (pv 2))) (pv 3)) (pe_slice (sl_any K) (pv 1) (po_some (pv 2)) po_none)))) pss_nil) (pss_cons (ps_if (pt_cmpR (o_eq K hu) (pv 4) pe_int (nomark _)) (pss_one (ps_ret (pe_op (o_add K) (pe_slice (sl_any K) (pv 1) po_none (po_some (pv 2))) (pe_slice (sl_any K) (pv 1) (po_some (pe_op (o_add K) (pv 2) pe_int)) po_none)))) pss_nil) (pss_cons (ps_if (pt_cmpR (o_eq K hu) (pv 4) pe_int (nomark _)) (pss_one (ps_ret (pe_op (o_add K) (pe_op (o_add K) (pe_slice (sl_any K) (pv 1) po_none (po_some (pv 2))) (pv 3)) (pe_slice (sl_any K) (pv 1) (po_some (pe_op (o_add K) (pv 2) pe_int)) po_none)))) pss_nil) (pss_cons (ps_if (pt_cmpR (o_eq K hu) (pv 4) pe_int (nomark _)) (pss_one (ps_ret (pe_slice (sl_any K) (pv 1) po_none (po_some (pv 2))))) pss_nil) (pss_one (ps_ret (pe_ifExp (pt_cmpR (o_eq K hu) (pv 4) pe_int (nomark _)) (pe_op (o_add K) (pv 1) (pv 3)) (pv 1)))))))))), ?_⟩)
  rcases vs with _ | ⟨v0, _ | ⟨v1, _ | ⟨v2, rest2⟩⟩⟩ <;> try exact h.elim
  rw [show L2.start ["_law_dice_here", "_law_text", "_law_at", "_law_sign", "_law_way"] [v0, v1] = [some v0, some v1, none, none, none] from rfl]
  try dsimp only [cx_K]
  obtain ⟨d, l, rfl, rfl, hd, h1, h60, q⟩ := h
  walk_at "rd"
  refine w_len_S (by omega) ?_
  walk_at "rd"
  refine ⟨d, _, rfl, rfl, hd, by omega, by omega, fun at' H1 a0 a1 x1 d1 => ?_⟩
  walk_at "rd"
  refine ⟨d, rfl, d1, .inr ⟨_, rfl, rfl, rfl, fun c H2 hc x2 d2 => ?_⟩⟩
  refine ⟨_, _, rfl, ?_⟩
  walk_at "rd"
  refine ⟨d, 6, rfl, rfl, d2, by decide, by decide, fun r H3 r0 r1 x3 d3 => ?_⟩
  have x := (x1.trans x2).trans x3
  walk_at "rd"
  refine w_iteD (fun c => ?_) (fun c => ?_)
  · walk_at "rd"
    refine w_cut_to (by omega) a0 ?_
    walk_at "rd"
    refine w_add_S (by walk_at "len") ?_
    walk_at "rd"
    refine w_cut_from (by omega) a0 ?_
    refine w_add_S (by walk_at "len") ?_
    exact q _ _ (by walk_at "len") x d3
  walk_at "rd"
  refine w_iteD (fun c => ?_) (fun c => ?_)
  · walk_at "rd"
    refine w_cut_to (by omega) a0 ?_
    walk_at "rd"
    refine w_cut_from (by omega) (by omega) ?_
    refine w_add_S (by walk_at "len") ?_
    exact q _ _ (by walk_at "len") x d3
  walk_at "rd"
  refine w_iteD (fun c => ?_) (fun c => ?_)
  · walk_at "rd"
    refine w_cut_to (by omega) a0 ?_
    walk_at "rd"
    refine w_add_S (by walk_at "len") ?_
    walk_at "rd"
    refine w_cut_from (by omega) (by omega) ?_
    refine w_add_S (by walk_at "len") ?_
    exact q _ _ (by walk_at "len") x d3
  walk_at "rd"
  refine w_iteD (fun c => ?_) (fun c => ?_)
  · walk_at "rd"
    refine w_cut_to (by omega) a0 ?_
    exact q _ _ (by walk_at "len") x d3
  walk_at "rd"
  refine w_iteD (fun c => ?_) (fun c => ?_)
  · walk_at "rd"
    refine w_add_S (by walk_at "len") ?_
    exact q _ _ (by walk_at "len") x d3
  · walk_at "rd"
    exact q _ _ (by omega) x d3

open SX (S)
open Len
theorem figF : (fun c => decide (c ∈ [48, 49, 50, 51, 52, 53, 54, 55, 56, 57])) = isDig := funext in_figs
theorem in_two (t : List Nat) : inV (.str (S t)) [.str (S [112]), .str (S [112, 116])] = decide (t = [112] ∨ t = [112, 116]) := by
  unfold inV
  simp only [List.any_cons, List.any_nil, Bool.or_false]
  show ((S [112] == S t) || (S [112, 116] == S t)) = _
  rw [beqS, beqS]
  have e1 : decide ([112] = t) = decide (t = [112]) := decide_eq_decide.mpr ⟨Eq.symm, Eq.symm⟩
  have e2 : decide ([112, 116] = t) = decide (t = [112, 116]) := decide_eq_decide.mpr ⟨Eq.symm, Eq.symm⟩
  rw [e1, e2, Bool.decide_or]
theorem dw_len (l : List Nat) : (l.dropWhile isDig).length ≤ l.length := by
  induction l with
  | nil => simp
  | cons c r ih =>
    rw [List.dropWhile_cons]
    split
    · simp; omega
    · simp
def sp__law_is_begun (K : PySem.W.Frag) : Sp := fun vs H Q _ => match vs with
  | [x] => ∃ l, x = .str (S l) ∧ l.length ≤ 1000 ∧ ∀ H', Ext H H' → Q (.bl (begun l)) H'
  | _ => False
theorem ok__law_is_begun {P : Program} {w : World} {K : PySem.W.Frag} {mg : Str → Option Value} {base : Heap} (T : Tx P K mg)  : Has P w K mg base 1 "_law_is_begun" ["_law_text"] (sp__law_is_begun K) := by
  refine Has.mk (k := 0) T.d__law_is_begun T.g__law_is_begun sc__law_is_begun (fun _ _ _ _ _ _ us hl => match us, hl with | [_], _ => rfl) (fun vs H Q E h => by rcases vs with _ | ⟨v0, _ | ⟨v1, rest1⟩⟩ <;> first | rfl | exact h.elim) (fun f cdv A outer s H vs Q E hr hgd h => have hu := hr.units; have hu66 := units66 hr; ⟨_, (pss_cons (ps_set (i := 1) sc__law_is_begun.nd rfl (.inl rfl) (pe_ifExp (pt_cmpR (o_eq K hu) (pe_slice (sl_any K) (pv 0) po_none (po_some pe_int)) (pe_S [45] rfl) (nomark _)) (pe_slice (sl_any K) (pv 0) (po_some pe_int) po_none) (pv 0))) (pss_cons (ps_set (i := 2) sc__law_is_begun.nd rfl (.inl rfl) (pe_bm PySem.F.plainAttrs_str PySem.F.slot_str_lstrip PySem.F.type_str_lstrip m_lstrip (pv 1) (pa_cons (pe_S [48, 49, 50, 51, 52, 53, 54, 55, 56, 57] rfl) pa_nil))) (pss_cons (ps_set (i := 3) sc__law_is_begun.nd rfl (.inl rfl) (pe_op o_sub (pe_callB (c_len K) (by rfl) T.n_len (by decide +kernel) (pa_cons (pv 1) pa_nil)) (pe_callB (c_len K) (by rfl) T.n_len (by decide +kernel) (pa_cons (pv 2) pa_nil)))) (pss_cons (ps_if (pt_cmpR (o_eq K hu) (pv 2) (pe_S [] rfl) (nomark _)) (pss_one (ps_ret (pe_cmpR o_le (pv 3) pe_int (nomark _)))) pss_nil) (pss_cons (ps_if (pt_cmpR (o_eq K hu) (pv 2) (pe_S [117] rfl) (nomark _)) (pss_one (ps_ret (pe_chain o_le o_le pe_int (pv 3) pe_int))) pss_nil) (pss_cons (ps_if (pt_cmpR (o_in K) (pv 2) (pe_tup (pa_cons (pe_S [112] rfl) (pa_cons (pe_S [112, 116] rfl) pa_nil))) rfl) (pss_one (ps_ret (pe_chain o_le o_le pe_int (pv 3) pe_int))) pss_nil) (pss_cons (ps_if (PW.pt (pw_or (pt_cmpR (o_ne K hu) (pe_ix (ixA K) (pv 2) pe_int (fun _ _ => rfl)) (pe_S [46] rfl) (nomark _)) (pw_or1 (pt_cmpR o_gt (pv 3) pe_int (nomark _))))) (pss_one (ps_ret pe_bl)) pss_nil) (pss_cons (ps_set (i := 4) sc__law_is_begun.nd rfl (.inl rfl) (pe_bm PySem.F.plainAttrs_str PySem.F.slot_str_lstrip PySem.F.type_str_lstrip m_lstrip (pe_slice (sl_any K) (pv 2) (po_some pe_int) po_none) (pa_cons (pe_S [48, 49, 50, 51, 52, 53, 54, 55, 56, 57] rfl) pa_nil))) (pss_cons (ps_set (i := 5) sc__law_is_begun.nd rfl (.inl rfl) (pe_op o_sub (pe_op o_sub (pe_callB (c_len K) (by rfl) T.n_len (by decide +kernel) (pa_cons (pv 2) pa_nil)) pe_int) (pe_callB (c_len K) (by rfl) T.n_len (by decide +kernel) (pa_cons (pv 4) pa_nil)))) (pss_one (ps_ret (pe_ifExp (pt_cmpR (o_eq K hu) (pv 4) (pe_S [] rfl) (nomark _)) (pe_cmpR o_le (pv 5) pe_int (nomark _)) (pe_and (pe_cmpR (o_in K) (pv 4) (pe_tup (pa_cons (pe_S [112] rfl) (pa_cons (pe_S [112, 116] rfl) pa_nil))) rfl) (pe_one (pe_chain o_le o_le pe_int (pv 5) pe_int))))))))))))))), ?_⟩)
  rcases vs with _ | ⟨v0, _ | ⟨v1, rest1⟩⟩ <;> try exact h.elim
  rw [show L2.start ["_law_text", "_law_rest", "_law_tail", "_law_many", "_law_last", "_law_decimals"] [v0] = [some v0, none, none, none, none, none] from rfl]
  try dsimp only [cx_K]
  obtain ⟨l, rfl, hl, q⟩ := h
  unfold begun at q
  walk_at "rx"
  with_reducible refine w_seqH fun N hN => ?_
  have key : ∀ r : List Nat, r.length ≤ 1000 → (∀ H', Ext H H' → Q (.bl (let tail := r.dropWhile isDig
  let many := r.length - tail.length
  if tail = [] then decide (many ≤ 10) else if tail = [117] then decide (1 ≤ many ∧ many ≤ 10) else if tail = [112] ∨ tail = [112, 116] then decide (1 ≤ many ∧ many ≤ 5)
  else if tail.head? ≠ some 46 ∨ 5 < many then false
  else let last := (tail.drop 1).dropWhile isDig
    let dec := tail.length - 1 - last.length
    if last = [] then decide (dec ≤ 9) else decide ((last = [112] ∨ last = [112, 116]) ∧ 1 ≤ dec ∧ dec ≤ 9))) H') → N [some (.str (S l)), some (.str (S r)), none, none, none, none] H := by
    intro r hr q
    rw [hN]
    dsimp only at q
    walk_at "rd"
    refine w_lstrip (by omega) ?_
    rw [figF]
    have ht := dw_len r
    generalize r.dropWhile isDig = tail at q ht
    have em : (r.length : Int) - (tail.length : Int) = ((r.length - tail.length : Nat) : Int) := by omega
    walk_at "rd"
    refine w_len_S (by omega) ?_
    walk_at "rd"
    refine w_len_S (by omega) ?_
    walk_at "rd"
    rw [em]
    generalize r.length - tail.length = many at q
    walk_at "rd"
    refine w_iteD (fun c1 => ?_) (fun c1 => ?_)
    · walk_at "rd"
      have := q H Ext.refl
      rw [if_pos c1] at this
      have e : decide ((many : Int) ≤ 10) = decide (many ≤ 10) := decide_eq_decide.mpr (by omega)
      rw [e]
      exact this
    rw [if_neg c1] at q
    walk_at "rd"
    refine w_iteD (fun c2 => ?_) (fun c2 => ?_)
    · walk_at "rd"
      have := q H Ext.refl
      rw [if_pos c2] at this
      refine w_iteD (fun c3 => ?_) (fun c3 => ?_)
      · walk_at "rd"
        have e : decide ((many : Int) ≤ 10) = decide (1 ≤ many ∧ many ≤ 10) := decide_eq_decide.mpr (by omega)
        rw [e]
        exact this
      · rw [decide_eq_false (by omega)] at this
        exact this
    rw [if_neg c2] at q
    walk_at "rd"
    refine w_newT (by rfl) fun p H1 n1 x1 h1 _ => ?_
    walk_at "rd"
    refine w_inT (SqT.of h1) rfl rfl ?_
    rw [in_two]
    refine ⟨_, rfl, ?_⟩
    refine w_iteD (fun c3 => ?_) (fun c3 => ?_)
    · walk_at "rd"
      have := q H1 x1
      rw [if_pos c3] at this
      refine w_iteD (fun c4 => ?_) (fun c4 => ?_)
      · walk_at "rd"
        have e : decide ((many : Int) ≤ 5) = decide (1 ≤ many ∧ many ≤ 5) := decide_eq_decide.mpr (by omega)
        rw [e]
        exact this
      · rw [decide_eq_false (by omega)] at this
        exact this
    rw [if_neg c3] at q
    obtain ⟨c, t, rfl⟩ : ∃ c t, tail = c :: t := by
      cases tail with
      | nil => exact absurd rfl c1
      | cons c t => exact ⟨c, t, rfl⟩
    have htl : (c :: t).length ≤ 1000 := by omega
    walk_at "rd"
    refine w_ix_S (by omega) (atI_nat (j := 0) rfl) ?_
    walk_at "rd"
    refine w_iteD (fun c4 => ?_) (fun c4 => ?_)
    rotate_left
    · walk_at "rd"
      have := q H1 x1
      rw [if_pos (.inl (by simpa using c4))] at this
      exact this
    have c4 : c = 46 := by simpa using c4
    subst c4
    walk_at "rd"
    refine w_iteD (fun c5 => ?_) (fun c5 => ?_)
    · walk_at "rd"
      have := q H1 x1
      rw [if_pos (.inr (by omega))] at this
      exact this
    rw [if_neg (by simp; omega)] at q
    walk_at "rd"
    refine w_cut_from (by omega) (by decide) ?_
    have e1 : (46 :: t).drop (Int.toNat 1) = t := rfl
    rw [e1]
    have e2 : (46 :: t).drop 1 = t := rfl
    rw [e2] at q
    walk_at "rd"
    have htt : t.length ≤ 1000 := by simp at htl; omega
    refine w_lstrip (by omega) ?_
    rw [figF]
    have hw := dw_len t
    generalize t.dropWhile isDig = last at q hw
    have ed : ((46 :: t).length : Int) - 1 - (last.length : Int) = (((46 :: t).length - 1 - last.length : Nat) : Int) := by simp; omega
    walk_at "rd"
    refine w_len_S (by omega) ?_
    walk_at "rd"
    refine w_len_S (by omega) ?_
    walk_at "rd"
    rw [ed]
    generalize (46 :: t).length - 1 - last.length = dec at q
    walk_at "rd"
    refine w_iteD (fun c6 => ?_) (fun c6 => ?_)
    · walk_at "rd"
      have := q H1 x1
      rw [if_pos c6] at this
      have e : decide ((dec : Int) ≤ 9) = decide (dec ≤ 9) := decide_eq_decide.mpr (by omega)
      rw [e]
      exact this
    rw [if_neg c6] at q
    walk_at "rd"
    refine w_newT (by rfl) fun p2 H2 n2 x2 h2 _ => ?_
    walk_at "rd"
    refine w_inT (SqT.of h2) rfl rfl ?_
    rw [in_two]
    have := q H2 (x1.trans x2)
    refine ⟨_, rfl, ?_⟩
    refine w_iteD (fun c7 => ?_) (fun c7 => ?_)
    · walk_at "rd"
      refine w_iteD (fun c8 => ?_) (fun c8 => ?_)
      · walk_at "rd"
        have e : decide ((dec : Int) ≤ 9) = decide ((last = [112] ∨ last = [112, 116]) ∧ 1 ≤ dec ∧ dec ≤ 9) := decide_eq_decide.mpr ⟨fun z => ⟨c7, by omega, by omega⟩, fun z => by omega⟩
        rw [e]
        exact this
      · rw [decide_eq_false (fun z => c8 (by omega))] at this
        exact this
    · rw [decide_eq_false (fun z => c7 z.1)] at this
      exact this
  walk_at "rd"
  refine w_cut_to (by omega) (by decide) ?_
  walk_at "rd"
  refine w_iteD (fun c => ?_) (fun c => ?_)
  · have c : l.take 1 = [45] := c
    walk_at "rd"
    refine w_cut_from (by omega) (by decide) ?_
    have e1 : l.drop (Int.toNat 1) = l.drop 1 := rfl
    rw [e1]
    rw [if_pos c] at q
    exact key _ (by simp; omega) q
  · have c : ¬ l.take 1 = [45] := c
    walk_at "rd"
    rw [if_neg c] at q
    exact key _ hl q

open SX (S)
open Len
def parS : List Nat := [112, 97, 114, 115, 101, 32]
def lenS : List Nat := [108, 101, 110, 103, 116, 104]
def outV : Out → V
  | .parse k => .str (S (parS ++ TL.numL k))
  | .big => .str (S lenS)
  | .ok i => .int i
theorem due_at {l : List Nat} {i : Nat} (h1 : (Len.run .s0 (l.take i)).isSome = true) (h2 : (Len.run .s0 (l.take (i + 1))).isSome = false) (hi : i < l.length) : due l = .parse i := by
  have := err_alive l .s0
  unfold due
  cases he : err .s0 l with
  | none =>
    rw [he] at this
    rw [this.2 (i + 1)] at h2
    cases h2
  | some k =>
    rw [he] at this
    obtain ⟨hk, ha⟩ := this
    have a1 := (ha i).mp h1
    have a2 : ¬ (i + 1 ≤ k ∨ k = l.length) := fun z => by
      rw [(ha (i + 1)).mpr z] at h2
      cases h2
    have : k = i := by omega
    rw [this]
theorem due_end {l : List Nat} (h : (Len.run .s0 (l.take l.length)).isSome = true) : err .s0 l = none ∨ err .s0 l = some l.length := by
  have := err_alive l .s0
  cases he : err .s0 l with
  | none => exact .inl rfl
  | some k =>
    rw [he] at this
    obtain ⟨hk, ha⟩ := this
    have := (ha l.length).mp h
    right
    congr 1
    omega
theorem drop_last {w : List Nat} (hw : w ≠ []) : ∃ p c, w = p ++ [c] := ⟨w.dropLast, w.getLast hw, (List.dropLast_concat_getLast hw).symm⟩
theorem open_body {l : List Nat} (h : err .s0 l = some l.length) : (body l).drop ((body l).length - 1) ≠ [117] ∧ (body l).drop ((body l).length - 2) ≠ [112, 116] := by
  by_cases hb : body l = []
  · rw [hb]
    simp
  · obtain ⟨p, c, e⟩ := drop_last hb
    have el : ∃ p', l = p' ++ [c] := by
      unfold body at e
      split at e
      · cases l with
        | nil => simp at e
        | cons a r =>
          simp at e
          exact ⟨a :: p, by rw [e]; simp⟩
      · exact ⟨p, e⟩
    obtain ⟨p', el⟩ := el
    have := open_last h el
    rw [e]
    constructor
    · simp
      exact this.1
    · intro z
      have z2 := congrArg List.getLast? z
      rw [List.getLast?_drop] at z2
      split at z2
      · simp at z2
      · simp at z2
        exact this.2 z2
theorem units_len {l : List Nat} : ab (if l.head? = some 45 then 0 - units (body l) else units (body l)) = units (body l) := by
  have := units_nonneg (body l)
  unfold ab
  split <;> split <;> omega
def sp__law_due (K : PySem.W.Frag) : Sp := fun vs H Q _ => match vs with
  | [x] => ∃ l, x = .str (S l) ∧ l.length ≤ 1000 ∧ ∀ H', Ext H H' → Q (outV (due l)) H'
  | _ => False
theorem ok__law_due {P : Program} {w : World} {K : PySem.W.Frag} {mg : Str → Option Value} {base : Heap} (T : Tx P K mg) (h__law_units_told : Has P w K mg base 3 "_law_units_told" ["_law_word"] (sp__law_units_told K)) (h__law_is_begun : Has P w K mg base 1 "_law_is_begun" ["_law_text"] (sp__law_is_begun K)) : Has P w K mg base 4 "_law_due" ["_law_text"] (sp__law_due K) := by
  refine Has.mk (k := 3) T.d__law_due T.g__law_due sc__law_due (fun _ _ _ _ _ _ us hl => match us, hl with | [_], _ => rfl) (fun vs H Q E h => by rcases vs with _ | ⟨v0, _ | ⟨v1, rest1⟩⟩ <;> first | rfl | exact h.elim) (fun f cdv A outer s H vs Q E hr hgd h => have hu := hr.units; have hu66 := units66 hr; ⟨_, (pss_cons (ps_for PassesOwn.leaving rfl (pi_range1 (by rfl) T.n_range (pa_cons (pe_callB (c_len K) (by rfl) T.n_len (by decide +kernel) (pa_cons (pv 0) pa_nil)) pa_nil)) (pg_name (i := 1) sc__law_due.nd rfl (.inl rfl)) (pss_one (ps_if (pt_not (pt_val (pe_callH h__law_is_begun (hr.mono (by decide)) hgd (takes_of rfl rfl rfl rfl) (pa_cons (pe_slice (sl_any K) (pv 0) po_none (po_some (pe_op (o_add K) (pv 1) pe_int))) pa_nil)))) (pss_one (ps_ret (pe_op (o_add K) (pe_S [112, 97, 114, 115, 101, 32] rfl) (pe_callTy c_str (by rfl) T.n_str (by decide +kernel) (pa_cons (pv 1) pa_nil))))) pss_nil))) (pss_cons (ps_set (i := 2) sc__law_due.nd rfl (.inl rfl) (pe_callH h__law_units_told (hr.mono (by decide)) hgd (takes_of rfl rfl rfl rfl) (pa_cons (pe_ifExp (pt_cmpR (o_eq K hu) (pe_slice (sl_any K) (pv 0) po_none (po_some pe_int)) (pe_S [45] rfl) (nomark _)) (pe_slice (sl_any K) (pv 0) (po_some pe_int) po_none) (pv 0)) pa_nil))) (pss_cons (ps_if (pt_cmpR o_is (pv 2) pe_non (nomark _)) (pss_one (ps_ret (pe_op (o_add K) (pe_S [112, 97, 114, 115, 101, 32] rfl) (pe_callTy c_str (by rfl) T.n_str (by decide +kernel) (pa_cons (pe_callB (c_len K) (by rfl) T.n_len (by decide +kernel) (pa_cons (pv 0) pa_nil)) pa_nil))))) pss_nil) (pss_cons (ps_set (i := 3) sc__law_due.nd rfl (.inl rfl) (pe_ifExp (pt_cmpR (o_eq K hu) (pe_slice (sl_any K) (pv 0) po_none (po_some pe_int)) (pe_S [45] rfl) (nomark _)) (pe_op o_sub pe_int (pv 2)) (pv 2))) (pss_one (ps_ret (pe_ifExp (pt_cmpR o_lt (pe_callB c_abs (by rfl) T.n_abs (by decide +kernel) (pa_cons (pv 3) pa_nil)) (pe_op o_pow pe_int pe_int) (nomark _)) (pv 3) (pe_S [108, 101, 110, 103, 116, 104] rfl)))))))), ?_⟩)
  rcases vs with _ | ⟨v0, _ | ⟨v1, rest1⟩⟩ <;> try exact h.elim
  rw [show L2.start ["_law_text", "_law_index", "_law_units", "_law_found"] [v0] = [some v0, none, none, none] from rfl]
  try dsimp only [cx_K]
  obtain ⟨l, rfl, hl, q⟩ := h
  walk_at "rd"
  refine w_len_S (by omega) ?_
  walk_at "rd"
  refine w_rng1v (by omega) (by omega) ?_
  rw [Int.toNat_natCast]
  refine w_forRng (fun i σ H' => (∃ v, σ = [some (.str (S l)), v, none, none]) ∧ Ext H H' ∧ (Len.run .s0 (l.take i)).isSome = true) ⟨⟨_, rfl⟩, Ext.refl, by simp [Len.run]⟩ ?_ ?_
  · rintro i σ H' hi ⟨⟨v, rfl⟩, x1, a1⟩
    walk_at "rd"
    refine w_cut_to (by omega) (by omega) ?_
    have ei : ((i : Int) + 1).toNat = i + 1 := by omega
    rw [ei]
    walk_at "rd"
    refine ⟨_, rfl, by walk_at "len", fun H2 x2 => ?_⟩
    rw [begun_run]
    walk_at "rd"
    refine w_iteB (fun c => ?_) (fun c => ?_)
    · walk_at "rd"
      exact ⟨⟨_, rfl⟩, x1.trans x2, c⟩
    · walk_at "rd"
      refine w_str_n (Nat.lt_of_lt_of_le (Nat.lt_of_lt_of_le hi hl) (by decide)) ?_
      have hz := TL.numL_len (k := 3) (by decide) (Nat.lt_of_lt_of_le hi hl)
      refine w_add_S (by walk_at "len") ?_
      have := q H2 (x1.trans x2)
      rw [due_at a1 c hi] at this
      exact this
  · rintro σ H' ⟨⟨v, rfl⟩, x1, a1⟩
    have hd := due_end a1
    have eb : body l = if l.head? = some 45 then l.drop 1 else l := rfl
    have hbl : (body l).length ≤ 1000 := by
      rw [eb]
      split
      · simp; omega
      · exact hl
    with_reducible refine w_seq ?_
    with_reducible refine w_asg ?_
    with_reducible refine w_callS ?_
    with_reducible refine w_cons ?_
    refine w_hide fun C hC => ?_
    have key : C (.str (S (body l))) H' := by
      rw [hC]
      walk_at "rd"
      refine ⟨_, rfl, hbl, ?_⟩
      rcases hd with hd | hd
      · refine .inl ⟨none_s0 hd, fun H2 x2 => ?_⟩
        have := q H2 (x1.trans x2)
        unfold due at this
        rw [hd] at this
        dsimp only at this
        walk_at "rd"
        refine w_cut_to (by omega) (by decide) ?_
        walk_at "rd"
        have un := units_nonneg (body l)
        have ul := units_len (l := l)
        have last : ∀ f : Int, f = (if l.head? = some 45 then 0 - units (body l) else units (body l)) → Q (if ab f < 2 ^ Int.toNat 30 then .int f else .str (S lenS)) H2 := by
          rintro f rfl
          rw [ul]
          have e30 : (2 : Int) ^ Int.toNat 30 = 1073741824 := by decide
          rw [e30]
          by_cases c : units (body l) ≤ 1073741823
          · rw [if_pos c] at this
            rw [if_pos (by omega), Int.zero_sub]
            exact this
          · rw [if_neg c] at this
            rw [if_neg (by omega)]
            exact this
        refine w_iteD (fun c => ?_) (fun c => ?_)
        · walk_at "rd"
          have l2 := last _ (if_pos (take_one.mp c)).symm
          refine w_iteD (fun c2 => ?_) (fun c2 => ?_)
          · walk_at "rd"
            rw [if_pos c2] at l2
            exact l2
          · walk_at "rd"
            rw [if_neg c2] at l2
            exact l2
        · walk_at "rd"
          have l2 := last _ (if_neg (fun z => c (take_one.mpr z))).symm
          refine w_iteD (fun c2 => ?_) (fun c2 => ?_)
          · walk_at "rd"
            rw [if_pos c2] at l2
            exact l2
          · walk_at "rd"
            rw [if_neg c2] at l2
            exact l2
      · have ob := open_body hd
        refine .inr ⟨ob.1, ob.2, ?_⟩
        walk_at "rd"
        refine w_len_S (by omega) ?_
        walk_at "rd"
        refine w_str_n (Nat.lt_of_le_of_lt hl (by decide)) ?_
        have hz := TL.numL_len (n := l.length) (k := 4) (by decide) (Nat.lt_of_le_of_lt hl (by decide))
        refine w_add_S (by walk_at "len") ?_
        have := q H' x1
        unfold due at this
        rw [hd] at this
        exact this
    walk_at "rd"
    refine w_cut_to (by omega) (by decide) ?_
    walk_at "rd"
    refine w_iteD (fun c => ?_) (fun c => ?_)
    · walk_at "rd"
      refine w_cut_from (by omega) (by decide) ?_
      rw [if_pos (take_one.mp c)] at eb
      rw [eb] at key
      exact key
    · walk_at "rd"
      rw [if_neg (fun z => c (take_one.mpr z))] at eb
      rw [eb] at key
      exact key

open SX (S)
open Len
def noneS : List Nat := parS ++ [78, 111, 110, 101]
def sp__law_told (K : PySem.W.Frag) : Sp := fun vs H Q _ => match vs with
  | [x] => (∃ l, x = .str (S l) ∧ l.length ≤ 1000 ∧ ∀ H', Ext H H' → Q (outV (due l)) H') ∨ (Kd H x ∧ (∀ z, x ≠ .str z) ∧ ∀ H', Ext H H' → Q (.str (S noneS)) H')
  | _ => False
theorem due_k {l : List Nat} {k : Nat} (h : due l = .parse k) : k ≤ l.length := by
  unfold due at h
  have := err_alive l .s0
  cases he : err .s0 l with
  | none =>
    rw [he] at h
    dsimp only at h
    split at h <;> cases h
  | some j =>
    rw [he] at h this
    cases h
    exact this.1
theorem ok__law_told {P : Program} {w : World} {K : PySem.W.Frag} {mg : Str → Option Value} {base : Heap} (T : Tx P K mg) (h_length_of : Has P w K mg base 7 "length_of" ["text"] (sp_length_of K)) : Has P w K mg base 8 "_law_told" ["_law_text"] (sp__law_told K) := by
  refine Has.mk (k := 7) T.d__law_told T.g__law_told sc__law_told (fun _ _ _ _ _ _ us hl => match us, hl with | [_], _ => rfl) (fun vs H Q E h => by rcases vs with _ | ⟨v0, _ | ⟨v1, rest1⟩⟩ <;> first | rfl | exact h.elim) (fun f cdv A outer s H vs Q E hr hgd h => have hu := hr.units; have hu66 := units66 hr; ⟨_, (pss_one (ps_try_mix rfl rfl (takes_of rfl rfl rfl rfl) (fun W pn xe tk pow => (pss_one (ps_ret (pe_callH h_length_of (hr.mono (by decide)) hgd tk (pa_cons (pv 0) pa_nil))))) (.plain ⟨rfl, by decide, Or.inl T.g_InvalidLength⟩ (fun a oe cls d pn hz hf => (pss_one (ps_ret (pe_S [108, 101, 110, 103, 116, 104] rfl)))) (.named (i := 1) sc__law_told.nd rfl rfl ⟨rfl, by decide, Or.inl T.g_ParseError⟩ (fun a oe cls d pn hz hf => (pss_one (ps_ret (pe_op (o_add K) (pe_S [112, 97, 114, 115, 101, 32] rfl) (pe_callB (c_repr K hgd hu66) (by rfl) T.n_repr (by decide +kernel) (pa_cons (pe_xf T.xf_ParseError T.xn_ParseError hz hf (pv 1)) pa_nil)))))) HdMix.nil)))), ?_⟩)
  rcases vs with _ | ⟨v0, _ | ⟨v1, rest1⟩⟩ <;> try exact h.elim
  rw [show L2.start ["_law_text", "e"] [v0] = [some v0, none] from rfl]
  try dsimp only [cx_K]
  walk_at "rd"
  have bad_len : ∀ H1, Q (.str (S lenS)) H1 → WE (wMix K (fun cls d x H => E cls d H) { nx := fun x H' => Q V.non H', rt := Q }
        [(Value.ref (He.ga K "InvalidLength"), none, fun a cls d => tRet (tC (V.str (S lenS)))), (Value.ref (He.ga K "ParseError"), some 1, fun a cls d =>
            tRet (tOp (kAdd K) (tC (V.str (S parS))) (tCB (rReprD K) (tCons (tXf a cls d (He.ga K "ParseError") "number" (tVar 1)) tNil))))])
      [some v0, none] (CL K) none H1 := by
    intro H1 q
    exact ⟨true, T.m_InvalidLength_InvalidLength, fun _ a ha => q, nofun⟩
  have bad_num : ∀ y dd H1 d r, H1 d = some (.xd [("number", y)]) → Dp K H1 y dd → dd.showable = true → dd.hasDict = false → dd.depth ≤ 64 → dd.shown = S r → r.length ≤ 100 → Q (.str (S (parS ++ r))) H1 → WE (wMix K (fun cls d x H => E cls d H) { nx := fun x H' => Q V.non H', rt := Q }
        [(Value.ref (He.ga K "InvalidLength"), none, fun a cls d => tRet (tC (V.str (S lenS)))), (Value.ref (He.ga K "ParseError"), some 1, fun a cls d =>
            tRet (tOp (kAdd K) (tC (V.str (S parS))) (tCB (rReprD K) (tCons (tXf a cls d (He.ga K "ParseError") "number" (tVar 1)) tNil))))])
      [some v0, none] (CP K) (some d) H1 := by
    intro y dd H1 d r hd pd o1 o2 o3 er hr q
    refine ⟨false, T.m_ParseError_InvalidLength, nofun, fun _ => ⟨true, T.m_ParseError_ParseError, fun _ a ha => ?_, nofun⟩⟩
    walk_at "rd"
    refine w_xf rfl hd rfl ?_
    walk_at "rd"
    refine w_repr pd o1 o2 o3 (by rw [er, SX.S_len]; exact sz (by omega)) ?_
    rw [er]
    refine w_add_S (by show 6 + _ ≤ _; omega) ?_
    exact q
  rcases h with ⟨l, rfl, hl, q⟩ | ⟨k, n, q⟩
  · refine .inl ⟨l, rfl, hl, ?_⟩
    cases hd : due l with
    | parse k =>
      have hk := due_k hd
      rw [hd] at q
      intro d nd
      obtain ⟨o1, o2, o3, o4⟩ := int_show (i := (k : Int)) (by unfold ab; split <;> omega)
      have er : (PyData.int (k : Int)).shown = S (TL.numL k) := by
        rw [PyData.shown_int]
        exact SX.num_S k
      exact bad_num _ _ _ d _ upd_same (.int k) o1 o2 o3 er (Nat.le_trans (TL.numL_len (k := 4) (by decide) (by omega)) (by decide)) (q _ (ext_upd nd))
    | big =>
      rw [hd] at q
      exact fun H' x => bad_len _ (q H' x)
    | ok i =>
      rw [hd] at q
      exact q
  · refine .inr ⟨k, n, fun d nd => ?_⟩
    exact bad_num _ _ _ d [78, 111, 110, 101] upd_same .non rfl rfl (by simp [PyData.depth]) rfl (by decide) (q _ (ext_upd nd))

open SX (S)
open Len
theorem par_show : ∀ k, k < 101 → Nat.ble (PyData.str (S (parS ++ TL.numL k))).shown.length 1000 = true := by decide +kernel
theorem out_show (K : PySem.W.Frag) (H : Hp) (l : List Nat) (hl : l.length ≤ 100) : ∃ dd, Dp K H (outV (due l)) dd ∧ dd.showable = true ∧ dd.hasDict = false ∧ dd.depth ≤ 64 ∧ dd.shown.length ≤ sizeLine := by
  cases hd : due l with
  | parse k =>
    have hk := due_k hd
    exact ⟨_, .str _, rfl, rfl, by simp [PyData.depth], sz (Nat.le_trans (Nat.le_of_ble_eq_true (par_show k (by omega))) (by decide))⟩
  | big => exact ⟨_, .str _, rfl, rfl, by simp [PyData.depth], fitsB (by decide +kernel)⟩
  | ok i =>
    have hi : ab i < 10 ^ 60 := by
      unfold due at hd
      cases he : err .s0 l with
      | some k => rw [he] at hd; cases hd
      | none =>
        rw [he] at hd
        dsimp only at hd
        have un := units_nonneg (body l)
        split at hd
        · cases hd
          unfold ab
          split <;> split <;> omega
        · cases hd
    obtain ⟨a1, a2, a3, a4⟩ := int_show (i := i) hi
    exact ⟨_, .int i, a1, a2, a3, fitsB (Nat.ble_eq_true_of_le (by omega))⟩
theorem w_catL {K : PySem.W.Frag} {H : Hp} {Q : VK} {a b : Addr} {xs zs : List V} (h1 : H a = some (.lst xs)) (h2 : H b = some (.lst zs)) (hz : Nat.ble (xs.length + zs.length) 1000000 = true) (h : ∀ p H', H p = none → Ext H H' → H' p = some (.lst (xs ++ zs)) → Q (.ref p) H') : kAdd K (.ref a) (.ref b) H Q :=
  .inr (.inr (.inl ⟨a, b, xs, zs, rfl, rfl, h1, h2, fitsB hz, fun p hp => h p _ hp (ext_upd hp) upd_same⟩))
theorem w_repL {H : Hp} {Q : VK} {a : Addr} {k : Int} {xs : List V} (h1 : H a = some (.lst xs)) (hk : -(2 ^ 63) ≤ k ∧ k < 2 ^ 63) (hz : Nat.ble (xs.length * k.toNat) 1000000 = true) (h : ∀ p H', H p = none → Ext H H' → H' p = some (.lst (List.replicate k.toNat xs).flatten) → Q (.ref p) H') : kMul (.ref a) (.int k) H Q :=
  .inr (.inr (.inl ⟨a, k, xs, rfl, rfl, h1, hk.1, hk.2, fitsB hz, fun p hp => h p _ hp (ext_upd hp) upd_same⟩))
def sp_law (K : PySem.W.Frag) : Sp := fun vs H Q _ => match vs with
  | [x] => ∃ (s : Addr) (ns : List Int), x = .ref s ∧ SqL K H s (ns.map V.int) ∧ ns.length ≤ 63 ∧ ∀ H', Q (.bl true) H'
  | _ => False
theorem ok_law {P : Program} {w : World} {K : PySem.W.Frag} {mg : Str → Option Value} {base : Heap} (T : Tx P K mg) (h_is_length : Has P w K mg base 2 "is_length" ["value"] (sp_is_length K)) (h__law_told : Has P w K mg base 8 "_law_told" ["_law_text"] (sp__law_told K)) (h_length_of : Has P w K mg base 7 "length_of" ["text"] (sp_length_of K)) (h__law_pick : Has P w K mg base 2 "_law_pick" ["_law_dice_here", "_law_items"] (sp__law_pick K)) (h__law_bent : Has P w K mg base 3 "_law_bent" ["_law_dice_here", "_law_text"] (sp__law_bent K)) (h__law_due : Has P w K mg base 4 "_law_due" ["_law_text"] (sp__law_due K)) (h__law_drawn_text : Has P w K mg base 4 "_law_drawn_text" ["_law_dice_here"] (sp__law_drawn_text K)) (h__law_dice : Has P w K mg base 1 "_law_dice" ["_law_script", "_law_spot"] (sp__law_dice K)) : Has P w K mg base 9 "law" ["_law_script"] (sp_law K) := by
  refine Has.mk (k := 8) T.d_law T.g_law sc_law (fun _ _ _ _ _ _ us hl => match us, hl with | [_], _ => rfl) (fun vs H Q E h => by rcases vs with _ | ⟨v0, _ | ⟨v1, rest1⟩⟩ <;> first | rfl | exact h.elim) (fun f cdv A outer s H vs Q E hr hgd h => have hu := hr.units; have hu66 := units66 hr; ⟨_, (pss_cons (ps_for PassesOwn.leaving rfl (pi_range1 (by rfl) T.n_range (pa_cons (pe_callB (c_max2 rfl) (by rfl) T.n_max (by decide +kernel) (pa_cons pe_int (pa_cons (pe_callB (c_min2 rfl) (by rfl) T.n_min (by decide +kernel) (pa_cons pe_int (pa_cons (pe_callB (c_len K) (by rfl) T.n_len (by decide +kernel) (pa_cons (pv 0) pa_nil)) pa_nil))) pa_nil))) pa_nil)) (pg_name (i := 1) sc_law.nd rfl (.inl rfl)) (pss_cons (ps_set (i := 2) sc_law.nd rfl (.inl rfl) (pe_callH h__law_dice (hr.mono (by decide)) hgd (takes_of rfl rfl rfl rfl) (pa_cons (pv 0) (pa_cons (pv 1) pa_nil)))) (pss_cons (ps_for PassesOwn.leaving rfl (pi_range1 (by rfl) T.n_range (pa_cons pe_int pa_nil)) (pg_name (i := 3) sc_law.nd rfl (.inl rfl)) (pss_cons (ps_set (i := 4) sc_law.nd rfl (.inl rfl) (pe_callH h__law_drawn_text (hr.mono (by decide)) hgd (takes_of rfl rfl rfl rfl) (pa_cons (pv 2) pa_nil))) (pss_one (ps_for PassesOwn.leaving rfl (pi_any K (pe_tup (pa_cons (pv 4) (pa_cons (pe_callH h__law_bent (hr.mono (by decide)) hgd (takes_of rfl rfl rfl rfl) (pa_cons (pv 2) (pa_cons (pv 4) pa_nil))) pa_nil)))) (pg_name (i := 5) sc_law.nd rfl (.inl rfl)) (pss_one (ps_if (pt_cmpR (o_ne K hu) (pe_callB (c_repr K hgd hu66) (by rfl) T.n_repr (by decide +kernel) (pa_cons (pe_callH h__law_told (hr.mono (by decide)) hgd (takes_of rfl rfl rfl rfl) (pa_cons (pv 5) pa_nil)) pa_nil)) (pe_callB (c_repr K hgd hu66) (by rfl) T.n_repr (by decide +kernel) (pa_cons (pe_callH h__law_due (hr.mono (by decide)) hgd (takes_of rfl rfl rfl rfl) (pa_cons (pv 5) pa_nil)) pa_nil)) (nomark _)) (pss_one (ps_ret pe_bl)) pss_nil)))))) (pss_cons (ps_set (i := 6) sc_law.nd rfl (.inl rfl) (pe_callH h__law_pick (hr.mono (by decide)) hgd (takes_of rfl rfl rfl rfl) (pa_cons (pv 2) (pa_cons (pe_lst (pa_cons pe_non (pa_cons pe_int (pa_cons (pe_tup (pa_cons (pe_S [49, 112, 116] rfl) pa_nil)) (pa_cons (pe_lst (pa_cons (pe_S [49, 112, 116] rfl) pa_nil)) (pa_cons pe_bl (pa_cons pe_dnewK (pa_cons (pe_op o_pow pe_int pe_int) pa_nil)))))))) pa_nil)))) (pss_one (ps_if (pt_cmpR (o_ne K hu) (pe_callH h__law_told (hr.mono (by decide)) hgd (takes_of rfl rfl rfl rfl) (pa_cons (pv 6) pa_nil)) (pe_S [112, 97, 114, 115, 101, 32, 78, 111, 110, 101] rfl) (nomark _)) (pss_one (ps_ret pe_bl)) pss_nil)))))) (pss_cons (ps_set (i := 7) sc_law.nd rfl (.inl rfl) (pe_lst (pa_cons (pe_callH h_length_of (hr.mono (by decide)) hgd (takes_of rfl rfl rfl rfl) (pa_cons (pe_S [49, 112, 116] rfl) pa_nil)) (pa_cons (pe_callH h_length_of (hr.mono (by decide)) hgd (takes_of rfl rfl rfl rfl) (pa_cons (pe_S [45, 49, 50, 46, 53, 112, 116] rfl) pa_nil)) (pa_cons (pe_callH h_length_of (hr.mono (by decide)) hgd (takes_of rfl rfl rfl rfl) (pa_cons (pe_S [46, 53, 112, 116] rfl) pa_nil)) (pa_cons (pe_callH h_length_of (hr.mono (by decide)) hgd (takes_of rfl rfl rfl rfl) (pa_cons (pe_S [55, 117] rfl) pa_nil)) (pa_cons (pe_callH h_length_of (hr.mono (by decide)) hgd (takes_of rfl rfl rfl rfl) (pa_cons (pe_S [48, 46, 48, 48, 48, 48, 49, 112, 116] rfl) pa_nil)) pa_nil))))))) (pss_cons (ps_set (i := 7) sc_law.nd rfl (.inl rfl) (pe_op (o_add K) (pv 7) (pe_lst (pa_cons (pe_callH h_length_of (hr.mono (by decide)) hgd (takes_of rfl rfl rfl rfl) (pa_cons (pe_S [45, 48, 112, 116] rfl) pa_nil)) (pa_cons (pe_callH h__law_told (hr.mono (by decide)) hgd (takes_of rfl rfl rfl rfl) (pa_cons (pe_S [49, 46, 112, 116] rfl) pa_nil)) (pa_cons (pe_callH h__law_told (hr.mono (by decide)) hgd (takes_of rfl rfl rfl rfl) (pa_cons (pe_S [] rfl) pa_nil)) (pa_cons (pe_callH h__law_told (hr.mono (by decide)) hgd (takes_of rfl rfl rfl rfl) (pa_cons (pe_S [45] rfl) pa_nil)) (pa_cons (pe_callH h__law_told (hr.mono (by decide)) hgd (takes_of rfl rfl rfl rfl) (pa_cons (pe_S [49, 50, 51, 52, 53, 54, 55, 56, 57, 48, 49] rfl) pa_nil)) pa_nil)))))))) (pss_cons (ps_set (i := 8) sc_law.nd rfl (.inl rfl) (pe_lst (pa_cons pe_int (pa_cons (pe_un un_neg pe_int) (pa_cons pe_int (pa_cons pe_int (pa_cons pe_int (pa_cons pe_int (pa_cons (pe_S [112, 97, 114, 115, 101, 32, 50] rfl) (pa_cons (pe_S [112, 97, 114, 115, 101, 32, 48] rfl) (pa_cons (pe_S [112, 97, 114, 115, 101, 32, 49] rfl) (pa_cons (pe_S [112, 97, 114, 115, 101, 32, 49, 48] rfl) pa_nil)))))))))))) (pss_cons (ps_set (i := 9) sc_law.nd rfl (.inl rfl) (pe_lst (pa_cons pe_int (pa_cons (pe_op o_sub (pe_op o_pow pe_int pe_int) pe_int) (pa_cons (pe_op o_sub pe_int (pe_op o_pow pe_int pe_int)) (pa_cons (pe_op o_pow pe_int pe_int) (pa_cons (pe_op o_sub pe_int (pe_op o_pow pe_int pe_int)) (pa_cons pe_bl (pa_cons pe_non (pa_cons (pe_S [49, 112, 116] rfl) (pa_cons (pe_tup (pa_cons pe_int pa_nil)) pa_nil))))))))))) (pss_cons (ps_setLc (i := 10) rfl sc_law.nd rfl rfl (sw_true rfl rfl rfl (by decide +kernel)) (pi_any K (pv 9)) (blkOk_by (own := [("_law_value", 11)]) (N := ["_law_script", "_law_spot", "_law_dice_here", "_law_turn", "_law_text", "_law_some", "_law_odd", "_law_told_here", "_law_due_here", "_law_values", "_law_judged", "_law_value"]) (sc := defScope (top 35)) (by decide +kernel)) (fun _ _ _ _ _ => (pg_name (i := 11) sc_law.nd rfl (by first | exact .inl rfl | exact .inr rfl))) (fun _ _ _ _ _ => pts_nil) (fun _ _ _ _ _ => (pe_callH h_is_length (hr.mono (by decide)) hgd tk0 (pa_cons (pv 11) pa_nil)))) (pss_one (ps_ret (pe_and (pe_cmpR (o_eq K hu) (pv 7) (pv 8) (nomark _)) (pe_and (pe_cmpR (o_eq K hu) (pv 10) (pe_op (o_add K) (pe_op o_mul (pe_lst (pa_cons pe_bl pa_nil)) pe_int) (pe_op o_mul (pe_lst (pa_cons pe_bl pa_nil)) pe_int)) (nomark _)) (pe_one (pe_cmpR (o_eq K hu) (pe_lst (pa_cons (pe_gint T.i_POINT) (pa_cons (pe_gint T.i_MAX_LENGTH) pa_nil))) (pe_lst (pa_cons pe_int (pa_cons (pe_op o_sub (pe_op o_pow pe_int pe_int) pe_int) pa_nil))) (nomark _))))))))))))), ?_⟩)
  rcases vs with _ | ⟨v0, _ | ⟨v1, rest1⟩⟩ <;> try exact h.elim
  rw [show L2.start ["_law_script", "_law_spot", "_law_dice_here", "_law_turn", "_law_text", "_law_some", "_law_odd", "_law_told_here", "_law_due_here", "_law_values", "_law_judged", "_law_value"] [v0] = [some v0, none, none, none, none, none, none, none, none, none, none, none] from rfl]
  try dsimp only [cx_K]
  obtain ⟨s, ns, rfl, hs, hn, q⟩ := h
  walk_at "rd"
  refine w_len_L hs ?_
  walk_at "rd"
  have hm : ∀ m : Int, (if (if m < 4 then m else 4) > 1 then (if m < 4 then m else 4) else 1) ≤ 4 := fun m => by split <;> split <;> omega
  have hm2 : ∀ m : Int, 1 ≤ (if (if m < 4 then m else 4) > 1 then (if m < 4 then m else 4) else 1) := fun m => by split <;> omega
  have hmA := hm ((ns.map V.int).length : Int)
  have hmB := hm2 ((ns.map V.int).length : Int)
  refine w_rng1v (by omega) (by omega) ?_
  refine w_forRng (fun i σ H => ∃ v1 v2 v3 v4 v5 v6, σ = [some (.ref s), v1, v2, v3, v4, v5, v6, none, none, none, none, none] ∧ SqL K H s (ns.map V.int)) ⟨_, _, _, _, _, _, rfl, hs⟩ ?_ ?_
  · rintro i σ H hi ⟨v1, v2, v3, v4, v5, v6, rfl, hs⟩
    walk_at "rd"
    refine ⟨s, ns, i, rfl, rfl, hs, fun d H1 nd x1 d1 => ?_⟩
    walk_at "rd"
    refine w_rng1v (by decide) (by decide) ?_
    refine w_forRng (fun j σ H' => ∃ v3 v4 v5, σ = [some (.ref s), some (.int i), some (.ref d), v3, v4, v5, v6, none, none, none, none, none] ∧ Die H' d ∧ ExtD d H1 H') ⟨_, _, _, rfl, d1, ExtD.refl⟩ ?_ ?_
    · rintro j σ H' hj ⟨v3, v4, v5, rfl, d2, x2⟩
      walk_at "rd"
      refine ⟨d, rfl, d2, fun l H3 l1 l2 x3 d3 => ?_⟩
      walk_at "rd"
      refine ⟨d, l, rfl, rfl, d3, l1, l2, fun l' H4 l4 x4 d4 => ?_⟩
      walk_at "rd"
      refine w_newT (by rfl) fun p H5 n5 x5 h5 _ => ?_
      refine w_anyT (SqT.of h5) ?_
      refine w_forTup (xs := [.str (S l), .str (S l')]) (fun k σ H' => (∃ v5, σ = [some (.ref s), some (.int i), some (.ref d), some (.int j), some (.str (S l)), v5, v6, none, none, none, none, none]) ∧ Ext H5 H') ⟨⟨_, rfl⟩, Ext.refl⟩ (fun k σ H' _ h => SqT.of (h.2 _ _ h5)) ?_ ?_
      · rintro k x σ H6 hx ⟨⟨v5, rfl⟩, x6⟩
        obtain ⟨m, rfl, hm⟩ : ∃ m, x = .str (S m) ∧ m.length ≤ 100 := by
          have := List.mem_of_getElem? hx
          simp only [List.mem_cons, List.not_mem_nil, or_false] at this
          rcases this with rfl | rfl
          · exact ⟨l, rfl, by omega⟩
          · exact ⟨l', rfl, by omega⟩
        walk_at "rd"
        refine .inl ⟨m, rfl, by omega, fun H7 x7 => ?_⟩
        obtain ⟨dd, e1, e2, e3, e4, e5⟩ := out_show K H7 m hm
        walk_at "rd"
        refine w_repr e1 e2 e3 e4 e5 ?_
        walk_at "rd"
        refine ⟨m, rfl, by omega, fun H8 x8 => ?_⟩
        walk_at "rd"
        refine w_repr (dp_ext x8 _ _ e1) e2 e3 e4 e5 ?_
        walk_at "rd"
        exact ⟨⟨_, rfl⟩, (x6.trans x7).trans x8⟩
      · rintro σ H6 ⟨⟨v5, rfl⟩, x6⟩
        exact ⟨_, _, _, rfl, (d4.ext x5).ext x6, (((x2.trans x3).trans x4).trans x5.d).trans x6.d⟩
    · rintro σ H' ⟨v3, v4, v5, rfl, d2, x2⟩
      walk_at "rd"
      refine w_newT (by rfl) fun p1 H2 n2 y2 h2 _ => ?_
      walk_at "rd"
      refine w_newL (by rfl) fun p2 H3 n3 y3 h3 _ => ?_
      walk_at "rd"
      refine w_dnew fun p3 H4 n4 y4 h4 => ?_
      walk_at "rd"
      refine w_newL (by rfl) fun p5 H5 n5 y5 h5 _ => ?_
      walk_at "rd"
      have d5 : Die H5 d := (((d2.ext y2).ext y3).ext y4).ext y5
      refine ⟨d, rfl, d5, .inl ⟨p5, _, rfl, SqL.of h5, ((((d2.ext y2).ext y3).ext y4)).ne n5, by rfl, by rfl, fun v H6 m6 x6 d6 => ?_⟩⟩
      have k6 : Kd H6 v ∧ ∀ z, v ≠ .str z := by
        have r := x6.r d5
        simp only [List.mem_cons, List.not_mem_nil, or_false] at m6
        rcases m6 with rfl | rfl | rfl | rfl | rfl | rfl | rfl
        · exact ⟨trivial, nofun⟩
        · exact ⟨trivial, nofun⟩
        · exact ⟨Kd.ext r ⟨_, y5 _ _ (y4 _ _ (y3 _ _ h2)), rfl⟩, nofun⟩
        · exact ⟨Kd.ext r ⟨_, y5 _ _ (y4 _ _ h3), rfl⟩, nofun⟩
        · exact ⟨trivial, nofun⟩
        · exact ⟨Kd.ext r ⟨_, y5 _ _ h4, rfl⟩, nofun⟩
        · exact ⟨trivial, nofun⟩
      walk_at "rd"
      refine .inr ⟨k6.1, k6.2, fun H7 x7 => ?_⟩
      walk_at "rd"
      refine ⟨_, _, _, _, _, _, rfl, sqL_fresh hs nd x1 (((((((x2.trans y2.d).trans y3.d).trans y4.d).trans y5.d).trans x6).trans x7.d))⟩
  · rintro σ H ⟨v1, v2, v3, v4, v5, v6, rfl, hs⟩
    have sc : ∀ (l : List Nat) (i : Int) (Hx : Hp) (C : VK) (Ex : XK), l.length ≤ 1000 → due l = .ok i → (∀ H', Ext Hx H' → C (.int i) H') → sp_length_of K [.str (S l)] Hx C Ex := by
      intro l i Hx C Ex hl e hc
      refine .inl ⟨l, rfl, hl, ?_⟩
      rw [e]
      exact hc
    have st : ∀ (l : List Nat) (o : Out) (Hx : Hp) (C : VK) (Ex : XK), l.length ≤ 1000 → due l = o → (∀ H', Ext Hx H' → C (outV o) H') → sp__law_told K [.str (S l)] Hx C Ex := by
      intro l o Hx C Ex hl e hc
      refine .inl ⟨l, rfl, hl, ?_⟩
      rw [e]
      exact hc
    walk_at "rd"
    refine sc _ 65536 _ _ _ (by decide) (by decide +kernel) fun H1 x1 => ?_
    walk_at "rd"
    refine sc _ (-819200) _ _ _ (by decide) (by decide +kernel) fun H2 x2 => ?_
    walk_at "rd"
    refine sc _ 32768 _ _ _ (by decide) (by decide +kernel) fun H3 x3 => ?_
    walk_at "rd"
    refine sc _ 7 _ _ _ (by decide) (by decide +kernel) fun H4 x4 => ?_
    walk_at "rd"
    refine sc _ 1 _ _ _ (by decide) (by decide +kernel) fun H5 x5 => ?_
    walk_at "rd"
    refine w_newL (by rfl) fun p6 H6 n6 x6 h6 _ => ?_
    walk_at "rd"
    refine sc _ 0 _ _ _ (by decide) (by decide +kernel) fun H7 x7 => ?_
    walk_at "rd"
    refine st _ (.parse 2) _ _ _ (by decide) (by decide +kernel) fun H8 x8 => ?_
    walk_at "rd"
    refine st _ (.parse 0) _ _ _ (by decide) (by decide +kernel) fun H9 x9 => ?_
    walk_at "rd"
    refine st _ (.parse 1) _ _ _ (by decide) (by decide +kernel) fun H10 x10 => ?_
    walk_at "rd"
    refine st _ (.parse 10) _ _ _ (by decide) (by decide +kernel) fun H11 x11 => ?_
    walk_at "rd"
    refine w_newL (by rfl) fun p12 H12 n12 x12 h12 _ => ?_
    have h6' : H12 p6 = some (.lst _) := x12 _ _ (x11 _ _ (x10 _ _ (x9 _ _ (x8 _ _ (x7 _ _ h6)))))
    refine w_catL h6' h12 (by rfl) fun p13 H13 n13 x13 h13 => ?_
    walk_at "rd"
    refine w_newL (by rfl) fun p14 H14 n14 x14 h14 _ => ?_
    walk_at "rd"
    refine w_newT (by rfl) fun p15 H15 n15 x15 h15 _ => ?_
    walk_at "rd"
    refine w_newL (by rfl) fun p16 H16 n16 x16 h16 _ => ?_
    walk_at "rd"
    refine w_anyL (SqL.of h16) ?_
    refine w_lcM (walk_list (xs := [.int 0, .int (2 ^ Int.toNat 30 - 1), .int (1 - 2 ^ Int.toNat 30), .int (2 ^ Int.toNat 30), .int (0 - 2 ^ Int.toNat 30), .bl true, .non, .str (S [49, 112, 116]), .ref p15])) (fun i => .bl (decide (i < 3))) (Nat.le_of_ble_eq_true rfl) (fun H' x => SqL.of (x _ _ h16)) ?_ ?_
    · rintro i Hx x Hy hi xe ⟨rfl, hx⟩ C hC
      have kx : Kd Hy x ∧ isL x = decide (i < 3) := by
        have t15 := xe _ _ (x16 _ _ h15)
        match i, hx with
        | 0, hx => cases hx; exact ⟨trivial, by decide +kernel⟩
        | 1, hx => cases hx; exact ⟨trivial, by decide +kernel⟩
        | 2, hx => cases hx; exact ⟨trivial, by decide +kernel⟩
        | 3, hx => cases hx; exact ⟨trivial, by decide +kernel⟩
        | 4, hx => cases hx; exact ⟨trivial, by decide +kernel⟩
        | 5, hx => cases hx; exact ⟨trivial, rfl⟩
        | 6, hx => cases hx; exact ⟨trivial, rfl⟩
        | 7, hx => cases hx; exact ⟨trivial, rfl⟩
        | 8, hx => cases hx; exact ⟨⟨_, t15, rfl⟩, rfl⟩
        | n + 9, hx => exact absurd hi (by simp)
      walk_at "rd"
      refine ⟨rfl, ?_⟩
      walk_at "rd"
      refine ⟨kx.1, ?_⟩
      rw [kx.2]
      exact hC _ Ext.refl
    intro D H17 nD x17 h17
    have h17 : H17 D = some (.lst [.bl true, .bl true, .bl true, .bl false, .bl false, .bl false, .bl false, .bl false, .bl false]) := h17
    walk_at "rd"
    have h13' := x17 _ _ (x16 _ _ (x15 _ _ (x14 _ _ h13)))
    have h14' := x17 _ _ (x16 _ _ (x15 _ _ h14))
    refine w_eq_d (.lst (SqL.of h13') (.cons (.int _) (.cons (.int _) (.cons (.int _) (.cons (.int _) (.cons (.int _) (.cons (.int _) (.cons (.str _) (.cons (.str _) (.cons (.str _) (.cons (.str _) .nil)))))))))))
      (.lst (SqL.of h14') (.cons (.int _) (.cons (.int _) (.cons (.int _) (.cons (.int _) (.cons (.int _) (.cons (.int _) (.cons (.str _) (.cons (.str _) (.cons (.str _) (.cons (.str _) .nil))))))))))) (by decide +kernel) (by decide +kernel) ?_
    walk_at "rd"
    refine w_newL (by rfl) fun p18 H18 n18 x18 h18 _ => ?_
    walk_at "rd"
    refine w_repL h18 (by decide) (by rfl) fun p19 H19 n19 x19 h19 => ?_
    walk_at "rd"
    refine w_newL (by rfl) fun p20 H20 n20 x20 h20 _ => ?_
    walk_at "rd"
    refine w_repL h20 (by decide) (by rfl) fun p21 H21 n21 x21 h21 => ?_
    refine w_catL (x21 _ _ (x20 _ _ h19)) h21 (by rfl) fun p22 H22 n22 x22 h22 => ?_
    have h17' := x22 _ _ (x21 _ _ (x20 _ _ (x19 _ _ (x18 _ _ h17))))
    refine w_eq_d (.lst (SqL.of h17') (.cons (.bl _) (.cons (.bl _) (.cons (.bl _) (.cons (.bl _) (.cons (.bl _) (.cons (.bl _) (.cons (.bl _) (.cons (.bl _) (.cons (.bl _) .nil))))))))))
      (.lst (SqL.of h22) (.cons (.bl _) (.cons (.bl _) (.cons (.bl _) (.cons (.bl _) (.cons (.bl _) (.cons (.bl _) (.cons (.bl _) (.cons (.bl _) (.cons (.bl _) .nil)))))))))) (by decide +kernel) (by decide +kernel) ?_
    walk_at "rd"
    refine w_newL (by rfl) fun p23 H23 n23 x23 h23 _ => ?_
    walk_at "rd"
    refine w_newL (by rfl) fun p24 H24 n24 x24 h24 _ => ?_
    walk_at "rd"
    refine w_eq_d (.lst (SqL.of (x24 _ _ h23)) (.cons (.int _) (.cons (.int _) .nil))) (.lst (SqL.of h24) (.cons (.int _) (.cons (.int _) .nil))) (by decide +kernel) (by decide +kernel) ?_
    have e : PyData.eqv (.list [.int 65536, .int 1073741823]) (.list [.int 65536, .int (2 ^ Int.toNat 30 - 1)]) = true := by decide +kernel
    rw [e]
    exact q _
theorem all_law {P : Program} {w : World} {K : PySem.W.Frag} {mg : Str → Option Value} {base : Heap} (T : Tx P K mg) : Has P w K mg base 9 "law" ["_law_script"] (sp_law K) := by
  have h_is_whole := ok_is_whole (P := P) (w := w) (base := base) T
  have h_is_length := ok_is_length (P := P) (w := w) (base := base) T h_is_whole
  have h_rounded := ok_rounded (P := P) (w := w) (base := base) T
  have h_tens := ok_tens (P := P) (w := w) (base := base) T
  have h_figures_from := ok_figures_from (P := P) (w := w) (base := base) T
  have h_require_points := ok_require_points (P := P) (w := w) (base := base) T
  have h_require_decimals := ok_require_decimals (P := P) (w := w) (base := base) T h_require_points h_figures_from
  have h_require_length_text := ok_require_length_text (P := P) (w := w) (base := base) T h_require_decimals h_require_points h_figures_from
  have h_points_told := ok_points_told (P := P) (w := w) (base := base) T h_rounded h_tens
  have h_length_of := ok_length_of (P := P) (w := w) (base := base) T h_points_told h_require_length_text
  have h__law_dice := ok__law_dice (P := P) (w := w) (base := base) T
  have h__law_roll := ok__law_roll (P := P) (w := w) (base := base) T
  have h__law_pick := ok__law_pick (P := P) (w := w) (base := base) T h__law_roll
  have h__law_nearest := ok__law_nearest (P := P) (w := w) (base := base) T
  have h__law_points_told := ok__law_points_told (P := P) (w := w) (base := base) T h__law_nearest
  have h__law_units_told := ok__law_units_told (P := P) (w := w) (base := base) T h__law_points_told
  have h__law_digits := ok__law_digits (P := P) (w := w) (base := base) T h__law_pick h__law_roll
  have h__law_drawn_text := ok__law_drawn_text (P := P) (w := w) (base := base) T h__law_roll h__law_digits h__law_pick
  have h__law_bent := ok__law_bent (P := P) (w := w) (base := base) T h__law_roll h__law_pick
  have h__law_is_begun := ok__law_is_begun (P := P) (w := w) (base := base) T
  have h__law_due := ok__law_due (P := P) (w := w) (base := base) T h__law_units_told h__law_is_begun
  have h__law_told := ok__law_told (P := P) (w := w) (base := base) T h_length_of
  have h_law := ok_law (P := P) (w := w) (base := base) T h_is_length h__law_told h_length_of h__law_pick h__law_bent h__law_due h__law_drawn_text h__law_dice
  exact h_law
theorem law_asks {K : PySem.W.Frag} (H : Hp) (a : Addr) (ns : List Int) (hl : ns.length ≤ 63) (hS : SqL K H a (ns.map V.int)) : sp_law K [.ref a] H (fun v _ => v = .bl true) fun _ _ _ => False :=
  ⟨a, ns, rfl, hS, hl, fun _ => rfl⟩
end K00
open PySem PySem.W PySem.Calls PyProof.Rows
set_option maxRecDepth 100000 in
set_option maxHeartbeats 0 in
theorem PySem.Challenge.cw_pagewright_k00_lengths_of_texts_holds : PySem.Challenge.rw_pagewright_k00_lengths_of_texts.Holds := by
  w_on; o_law
  refine HandSHeadRun.head_any (r := OpenLaw.row PySem.Challenge.rw_pagewright_k00_lengths_of_texts) (q := view (OpenLaw.row PySem.Challenge.rw_pagewright_k00_lengths_of_texts).prog [35]) (H := K00.hk) (ob := K00.ob) (M := 4000) (loose := K00.loose) (d := HandSHeadRun.topDef (OpenLaw.row PySem.Challenge.rw_pagewright_k00_lengths_of_texts).prog 35) (kwd := []) K00.ob_eq
    (by kernel_rfl) (fun s => by kernel_rfl) K00.run (by kernel_rfl) (by kernel_rfl) (by kernel_rfl) (by rfl) (by first | assumption | decide +kernel) (by decide +kernel) ⟨rfl, rfl, rfl, rfl, rfl, by decide +kernel⟩ ?hw ?hc
  case hw => w_witness2
  case hc =>
    refine Pw.walk_ofG (l := PySem.Challenge.rw_pagewright_k00_lengths_of_texts) (n := 63) (k := 9) (x := "_law_script") rfl (by decide) (by kernel_rfl) ⟨rfl, by decide, by decide⟩ ?F
    intro w mg fa h Y G hmg0
    obtain ⟨K, KX, c⟩ := Y
    have hmg : mg ("law" : PySem.Str) = some (.ref fa) := by
      have e : (HandSHeadRun.topDef (OpenLaw.row PySem.Challenge.rw_pagewright_k00_lengths_of_texts).prog 35).name = ("law" : PySem.Str) := by kernel_rfl
      rw [← e]
      exact hmg0
    have T := K00.tx_of KX G c
    have gg := T.g_law
    have e := hmg.symm.trans gg
    cases e
    refine ⟨K, K00.sp_law K, KX, fun H a ns hl _ hS => K00.law_asks H a ns hl hS, fun base _ _ => ?_⟩
    obtain ⟨fd, F, bb, _⟩ := K00.all_law (P := PySem.Challenge.rw_pagewright_k00_lengths_of_texts.prog) (w := w) (base := base) T
    exact ⟨fd, F, bb⟩
