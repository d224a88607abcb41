import PyProof.Rows.All
import Wide.All
import OpenK.AllK
import Wide.FinOn
import HandS.ForMost
import HandS.Walk
import HandS.IsInst
import HandS.TupLe
import HandS.TupLen
import HandS.Deep
import HandS.Conv
import HandS.SortRule
import HandS.SortInts
import HandS.Flow
import HandS.More
import KE.KDictPairs
import HandS.Zip
import PySem.Challenge.RW_webtimes_k40_namings_turned
set_option Elab.async false
set_option linter.all false
set_option maxRecDepth 100000
set_option maxHeartbeats 4000000
/-! The layer of this work: short names of readings, heaps, data. -/
namespace G39
open PySem PySem.Spec PyProof.Rows L2
abbrev rAdd : R2 := rI0 fun i j => .int (i + j)
abbrev rSub : R2 := rI0 fun i j => .int (i - j)
abbrev rMul : R2 := rI CMul fun i j => .int (i * j)
abbrev rMod : R2 := rI (fun _ j => 0 < j) fun i j => .int (i % j)
abbrev rDiv : R2 := rI CDiv fun i j => .int (i / j)
abbrev rPow : R2 := rI CPow fun i j => .int (i ^ j.toNat)
abbrev rLt : R2 := rI0 fun i j => .bl (decide (i < j))
abbrev rLe : R2 := rI0 fun i j => .bl (decide (i ≤ j))
abbrev rGt : R2 := rI0 fun i j => .bl (decide (j < i))
abbrev rGe : R2 := rI0 fun i j => .bl (decide (j ≤ i))
abbrev rNeg : V → Hp → VK → Prop := rU fun i => .int (-i)
abbrev rIsNn : R2 := fun x y H Q => y = .non ∧ Q (.bl (decide (x = .non))) H
abbrev rNotNn : R2 := fun x y H Q => y = .non ∧ Q (.bl (!decide (x = .non))) H
abbrev rIsBb : R2 := fun x y H Q => ∃ a b, x = .bl a ∧ y = .bl b ∧ Q (.bl (decide (a = b))) H
abbrev rNotBb : R2 := fun x y H Q => ∃ a b, x = .bl a ∧ y = .bl b ∧ Q (.bl (!decide (a = b))) H
abbrev rLenSq (K : PySem.W.Frag) : List V → Hp → VK → Prop := fun xs H Q => ∃ p ys, xs = [.ref p] ∧ (SqL K H p ys ∨ SqT K H p ys) ∧ Q (.int ys.length) H
abbrev rLenSt : List V → Hp → VK → Prop := fun xs H Q => ∃ z, xs = [.str z] ∧ z.length ≤ sizeLine ∧ Q (.int z.length) H
abbrev rMin2 : List V → Hp → VK → Prop := fun xs H Q => ∃ i j, xs = [.int i, .int j] ∧ Q (.int (if j < i then j else i)) H
abbrev rMax2 : List V → Hp → VK → Prop := fun xs H Q => ∃ i j, xs = [.int i, .int j] ∧ Q (.int (if j > i then j else i)) H
abbrev rInt1 : List V → Hp → VK → Prop := fun xs H Q => (∃ i, xs = [.int i] ∧ Q (.int i) H) ∨ ∃ k, xs = [.bl k] ∧ Q (.int (if k then 1 else 0)) H
abbrev rStrI : List V → Hp → VK → Prop := fun xs H Q => ∃ i, xs = [.int i] ∧ i.natAbs.log2 < 1920 ∧ Q (.str (toString i)) H
abbrev rListOf (K : PySem.W.Frag) : List V → Hp → VK → Prop := fun xs H Q => ∃ p ys, xs = [.ref p] ∧ (SqL K H p ys ∨ SqT K H p ys) ∧ ∀ l, H l = none → Q (.ref l) (upd H l (.lst ys))
theorem hu65 {A : Around} {k : Nat} (hr : Room k A) : A.units + 65 < cLine := by have := hr.un; omega
/-! ### own defs, bundled: a promise that is kept where no repr is under way -/
structure FnG (P : Program) (w : World) (K : PySem.W.Frag) (mg : Str → Option Value) (base : Heap) (CX : CXT) (k : Nat) (f : Addr) (fd : FuncData) (ps : List Str) (sp : Sp) : Prop where
  len : ∀ vs H Q E, sp vs H Q E → vs.length = ps.length
  run : ∀ (A : Around) (outer : List Env) (s : Shared) (H : Hp) (args : Args) (us : List Value) (vs : List V) (Q : VK) (E : XK), Room k A → A.guards = some [] → Env0 P w K mg base A outer s H → BindsTo s fd args (ps.zip us) → Vals vs us →
    sp vs H Q E → codeAny (model P w) A (.call (.ref f) args) (CR CX outer P w H s Q E) s
theorem FnG.of {P : Program} {w : World} {K : PySem.W.Frag} {mg : Str → Option Value} {base : Heap} {CX : CXT} {k : Nat} {f : Addr} {fd : FuncData} {ps : List Str} {sp : Sp} (F : FnOk P w K mg base CX k f fd ps sp) : FnG P w K mg base CX k f fd ps sp :=
  ⟨F.len, fun A outer s H args us vs Q E hr _ => F.run A outer s H args us vs Q E hr⟩
/-- a def of the text keeps its promise: its body's term and reading, at an entry where no repr is under way -/
theorem okG {P : Program} {w : World} {K : PySem.W.Frag} {mg : Str → Option Value} {base : Heap} {CX : CXT} {x qual : Str} {st : Stmt} {f : Addr} {fd : FuncData} {N ps : List Str} {k : Nat} {sp : Sp} (F : Fun K x qual st f fd) (S : FnScope N ps (defScope st))
    (len : ∀ vs H Q E, sp vs H Q E → vs.length = ps.length)
    (body : ∀ (cdv : Value) (A : Around) (outer : List Env) (s : Shared) (H : Hp) (vs : List V) (Q : VK) (E : XK), Room k (A.deeper (envOfC qual (defScope st) s.heap.objs.size f cdv)) → (A.deeper (envOfC qual (defScope st) s.heap.objs.size f cdv)).guards = some [] → sp vs H Q E →
      ∃ t, PSs (cxOf CX P w K mg base N qual (defScope st) f cdv A outer s H E) (defBody st) t ∧ t { nx := fun _ H' => Q .non H', rt := Q } (L2.start N vs) H) : FnG P w K mg base CX (k + 1) f fd ps sp := by
  obtain ⟨oc, od, kV, doc, pm, an, cdv, ct, osl, rfl, look, code⟩ := F.ex
  refine ⟨len, fun A outer s H args us vs Q E room gd env bind rel hsp => ?_⟩
  have KS : K.In s.heap := env.mod.kin.keeps fun b o q => (env.bs b o q).1
  have NL : s.heap.NoLimit := env.mod.nolimit.keeps fun b o q => (env.bs b o q).1
  have kinds : ∀ y ∈ ps.zip us, (defScope st).names.lookup y.1 = some .local ∨ ((defScope st).names.lookup y.1 = some .cell ∧ ((cellsFrom (s.heap.objs.size + 1) (defScope st).names []).lookup y.1).isSome = true) := by
    rintro ⟨nm, val⟩ hy
    rcases S.par nm (List.of_mem_zip hy).1 with l | c
    · exact .inl l
    · exact .inr ⟨c, PySem.W.cellsFrom_some _ _ _ (.inl c)⟩
  refine codeAny_call_function room.depth (KS _ _ look) rfl S.co S.gen rfl (PySem.W.codeRec_of KS code) (bind _ _ _ _ ?_)
  refine wpAny_newFunctionEnv_cells S.kind kinds fun env' he s1 inside => ?_
  subst he
  refine ⟨NL.keeps inside.toInCall.keep, codeAny_func ?_⟩
  obtain ⟨t, term, reading⟩ := body cdv A outer s H vs Q E (room.deeper _) (by show A.guards = some []; exact gd) hsp
  have J0 : Inv (cxOf CX P w K mg base N qual (defScope st) f cdv A outer s H E) [] (L2.start N vs) H s1 := inv_start S room.hd env (len _ _ _ _ hsp) rel inside
  refine wpAny_mono (term.run [] s1 (L2.start N vs) H _ J0 reading) (fun fl s' done => ?_) fun e s' q => q
  have close : ∀ {σ' : L2.St} {H' : Hp} {v : V} {u : Value}, Inv (cxOf CX P w K mg base N qual (defScope st) f cdv A outer s H E) [] σ' H' s' → RelV v u → Q v H' → CE outer P w H s Q u s' :=
    fun {σ' H' v u} J r q => ⟨v, H', J.os, J.bare, J.base, J.hok, r, q⟩
  cases fl with
  | ret u => let ⟨v, σ', H', J, r, q⟩ := done; exact close J r q
  | next => let ⟨σ', H', J, q⟩ := done; exact close (v := V.non) (u := Value.none) J rfl q
  | brk => let ⟨_, _, _, q⟩ := done; exact q.elim
  | cont => let ⟨_, _, _, q⟩ := done; exact q.elim
structure Cal (P : Program) (w : World) (K : PySem.W.Frag) (mg : Str → Option Value) (base : Heap) (k : Nat) (x : Str) (ps : List Str) (sp : Sp) : Prop where
  ex : ∃ f fd, FnG P w K mg base CX0 k f fd ps sp ∧ mg x = some (.ref f) ∧ PySem.W.keepIn K (.ref f) = true ∧ Binds K fd ps []
structure CalK (P : Program) (w : World) (K : PySem.W.Frag) (mg : Str → Option Value) (base : Heap) (k : Nat) (x : Str) (ps ks : List Str) (gV : List V → List V → List V) (sp : Sp) : Prop where
  ex : ∃ f fd g, FnG P w K mg base CX0 k f fd ps sp ∧ mg x = some (.ref f) ∧ PySem.W.keepIn K (.ref f) = true ∧ KBinds K fd ps ks g gV
section
variable {X : Cx} {k : Nat} {x : Str} {ps ks : List Str} {sp : Sp} {e : Expr} {es : List Expr} {kws : List Keyword} {p pos : Pos} {t tk : TA} {gV : List V → List V → List V} {f : Addr} {fd : FuncData}
/-- a callee that lets nothing out, run -/
theorem runG {pins : List (Addr × Obj)} {σ : L2.St} {H : Hp} {s : Shared} {Q : VK} {args : Args} {us : List Value} {vs : List V} (F : FnG X.prog X.w X.K X.mg X.base CX0 k f fd ps sp) (room : Room k X.A) (gd : X.A.guards = some []) (I : Inv X pins σ H s) (b : BindsTo s fd args (ps.zip us)) (r : Vals vs us) (h : sp vs H Q E0) :
    codeAny (model X.prog X.w) X.A (.call (.ref f) args) (fun r s' => match r with | .ok (.ret u) => EP X pins σ Q u s' | _ => False) s := by
  refine codeAny_mono (F.run X.A X.stack s H args us vs Q E0 room gd I.env0 b r h) fun r s' q => ?_
  match r, q with
  | .ok (.ret u), q => exact I.after q
theorem pe_own (C : Cal X.prog X.w X.K X.mg X.base k x ps sp) (hr : Room k X.A) (gd : X.A.guards = some []) (hg : Gl X x) (ha : PA X (e :: es) t) (hdb : (x == ("__debug__" : Str)) = false := by decide)
    (he : starEach (e :: es) X.env = (false, eval e X.env) :: starEach es X.env := by rfl) (hpl : (backTo pos (starEach es X.env)).any (·.1) = false := by rfl) : PE X (.Call (.Name x p) (e :: es) [] pos) (tCall sp [] E0 t) := by
  obtain ⟨f, fd, F, hm, hk, hb⟩ := C.ex
  refine ⟨fun pins s σ H Q I h => wpAny_Call_Name_kw (ld_glob I hg hm ?_ hdb)⟩
  refine PySem.W.callWith_K (h₀ := X.base) I.ok.mod.kin hk (thn (ha.run pos pins s σ H _ I h) fun us s1 ⟨vs, H1, I1, r, q⟩ => ⟨I1.kIn, ?_⟩) he hpl
  have q : sp (vs ++ []) H1 Q E0 := q
  rw [List.append_nil] at q
  have hl : (us ++ []).length = ps.length := by
    rw [List.append_nil, ← r.length]
    exact F.len _ _ _ _ q
  have bt := hb s1 us I1.kIn hl
  rw [List.append_nil] at bt
  refine wpAny_call (codeAny_mono (runG F hr gd I1 bt r q) fun res s' hq => ?_)
  match res, hq with
  | .ok (.ret u), hq => exact hq
theorem pe_own0 (C : Cal X.prog X.w X.K X.mg X.base k x ps sp) (hr : Room k X.A) (gd : X.A.guards = some []) (hg : Gl X x) (hdb : (x == ("__debug__" : Str)) = false := by decide) : PE X (.Call (.Name x p) [] [] pos) (tCall sp [] E0 tNil) := by
  obtain ⟨f, fd, F, hm, hk, hb⟩ := C.ex
  refine ⟨fun pins s σ H Q I h => wpAny_Call_Name_kw (ld_glob I hg hm ?_ hdb)⟩
  have q : sp [] H Q E0 := h
  have bt := hb s [] I.kIn (F.len _ _ _ _ q)
  refine PySem.W.callWith_K0 I.kIn hk (wpAny_call (codeAny_mono (runG F hr gd I bt .nil q) fun res s' hq => ?_))
  match res, hq with
  | .ok (.ret u), hq => exact hq
theorem pe_ownK (C : CalK X.prog X.w X.K X.mg X.base k x ps ks gV sp) (hr : Room k X.A) (gd : X.A.guards = some []) (hg : Gl X x) (ha : PA X (e :: es) t) (hkw : PK X kws tk) (hall : (backToKw pos (keywordEach kws X.env)).all (·.1.isSome) = true := by rfl) (hks : (backToKw pos (keywordEach kws X.env)).filterMap (·.1) = ks := by rfl)
    (hdb : (x == ("__debug__" : Str)) = false := by decide) (he : starEach (e :: es) X.env = (false, eval e X.env) :: starEach es X.env := by rfl)
    (hpl : ((backTo pos (starEach (e :: es) X.env)).any (·.1) || (backToKw pos (keywordEach kws X.env)).any (·.1.isNone)) = false := by rfl) : PE X (.Call (.Name x p) (e :: es) kws pos) (tCallK sp gV E0 t tk) := by
  obtain ⟨f, fd, g, F, hm, hk, hb⟩ := C.ex
  refine ⟨fun pins s σ H Q I h => wpAny_Call_Name_kw (ld_glob I hg hm ?_ hdb)⟩
  refine PySem.W.callWith_KW (h₀ := X.base) I.ok.mod.kin hk hall (thn (ha.run pos pins s σ H _ I h) fun us s1 ⟨vs, H1, I1, r, q⟩ => ?_) hpl he
  refine thn (hkw.run pos pins s1 σ H1 _ I1 q) fun ws s2 ⟨zs, H2, I2, rz, q2⟩ => ⟨I2.kIn, ?_⟩
  rw [hks]
  have r2 := hb.rel r rz
  have hl : (g us ws).length = ps.length := by
    rw [← r2.length]
    exact F.len _ _ _ _ q2
  refine wpAny_call (codeAny_mono (runG F hr gd I2 (hb.to s2 us ws I2.kIn hl) r2 q2) fun res s' hq => ?_)
  match res, hq with
  | .ok (.ret u), hq => exact hq
end
/-! ### the end of a law row over such a promise -/
section
open PyProof.Rows
theorem lawG {P : Program} {w : World} {K : PySem.W.Frag} {mg mb : Str → Option Value} {k : Nat} {fa a : Addr} {fd : FuncData} {x : Str} {sp : Sp} {s1 : Shared} {us : List Value} {ns : List Int}
    (KX : K.In s1.heap) (glob : s1.heap.Ns mainGlobals mg) (blt : s1.heap.Ns builtinsNs mb) (boot : ∀ x : Str, x ≠ "__name__" → mb x = bootBuiltins x) (lim : s1.heap.NoLimit) (gens : s1.gens = #[])
    (ha : s1.heap.get? a = some { cls := .type "list", data := .seq us.toArray }) (areInts : IntsAre us ns) (few : ns.length ≤ sizeLine) (room : Room k callerA)
    (F : ∀ base : Heap, K.In base → base.Ns mainGlobals mg → FnG P w K mg base CX0 k fa fd [x] sp) (bind : ∀ (s : Shared) (u : Value), BindsTo s fd ⟨[u], []⟩ [(x, u)])
    (promise : ∀ H : Hp, Only H → SqL K H a (ns.map V.int) → sp [.ref a] H (fun v _ => v = .bl true) fun _ _ _ => False) :
    codeAny (model P w) callerA (.call (.ref fa) ⟨[.ref a], []⟩) (fun r s' => r = .ok (.ret (.bool true)) ∧ OldK s1.heap s'.heap ∧ s'.os = s1.os ∧ AllBare s'.gens) s1 := by
  have rv := vals_ints areInts
  -- the abstract heap tracks the script alone, or nothing
  have main : ∀ H : Hp, Only H → SqL K H a (ns.map V.int) → HOk P w H s1.heap → (∀ b, H b ≠ none → b = a ∧ K.lookup a = none) →
      codeAny (model P w) callerA (.call (.ref fa) ⟨[.ref a], []⟩) (fun r s' => r = .ok (.ret (.bool true)) ∧ OldK s1.heap s'.heap ∧ s'.os = s1.os ∧ AllBare s'.gens) s1 := by
    intro H only sq hok at_a
    have noDict : ∀ {b : Addr} {o : Obj} {es : Array DictEntry} {ep : Nat}, s1.heap.get? b = some o → o.data = .dict es ep → H b = none := by
      intro b o es ep e d
      rcases hb : H b with _ | u
      · rfl
      · have q := (at_a b (by rw [hb]; exact Option.some_ne_none u)).1
        subst q
        have e2 := ha.symm.trans e
        cases e2
        cases (show Data.seq us.toArray _ = Data.dict es ep from d)
    have ns' : ∀ {b : Addr} {m : Str → Option Value}, s1.heap.Ns b m → (hidT s1.heap H).Ns b m := by
      rintro b m ⟨o, es, ep, e, d, rest⟩
      exact ⟨o, es, ep, hidT_get e (noDict e d), d, rest⟩
    have KB : K.In (hidT s1.heap H) := fun b o e => hidT_get (KX b o e) (by
      rcases hb : H b with _ | u
      · rfl
      · obtain ⟨q, nk⟩ := at_a b (by rw [hb]; exact Option.some_ne_none u)
        rw [q, nk] at e
        cases e)
    have M : Mod K mg (hidT s1.heap H) := ⟨KB, ns' glob, ⟨mb, ns' blt, boot⟩, let ⟨mc, h1, h2⟩ := lim; ⟨mc, ns' h1, h2⟩⟩
    have env : Env0 P w K mg (hidT s1.heap H) callerA [] s1 H := ⟨rfl, M, fun b o e => of_hidT e, Nat.le_of_eq (hidT_size _ _), trivial, fun b hb => (List.not_mem_nil hb).elim, hok, .of_eq gens⟩
    refine codeAny_mono ((F _ KB (ns' glob)).run callerA [] s1 H ⟨[.ref a], []⟩ [.ref a] [.ref a] _ _ room rfl env (bind s1 (.ref a)) (.cons rfl .nil) (promise H only sq)) fun r s' out => ?_
    match r, out with
    | .ok (.ret u), ⟨v, H', os, bare, un, hok', rel, q⟩ =>
      have q2 : v = .bl true := q
      subst q2
      obtain rfl : u = Value.bool true := rel
      refine ⟨rfl, OldK.of_keep fun b o e => ?_, os, bare⟩
      rcases only b with z | ⟨ob, ys, z⟩
      · exact un.keep b o e z (fun y => (List.not_mem_nil y).elim) (by simp)
      · have z2 := un.frzs b ob _ z
        have k1 := (hok b _ z).1
        rw [e] at k1
        cases k1
        exact (hok' b _ z2).1
  rcases hk : K.lookup a with _ | o
  · refine main (fun b => if b = a then some (.frz { cls := .type "list", data := .seq us.toArray } (.lst (ns.map V.int))) else none) (fun b => ?_) (.inl (.inr ⟨{ cls := .type "list", data := .seq us.toArray }, if_pos rfl⟩)) (fun b u z => ?_) (fun b z => ?_)
    · by_cases hb : b = a
      · exact .inr ⟨_, _, if_pos hb⟩
      · exact .inl (if_neg hb)
    · by_cases hb : b = a
      · cases (if_pos hb).symm.trans z
        subst hb
        exact ⟨ha, by rw [List.length_map]; exact few, us, _, rv, ha⟩
      · cases (if_neg hb).symm.trans z
    · by_cases hb : b = a
      · exact ⟨hb, hk⟩
      · exact absurd (if_neg hb) z
  · have e := (KX a o hk).symm.trans ha
    cases e
    refine main (fun _ => none) (fun _ => .inl rfl) (.inr ⟨_, us.toArray, _, hk, rfl, rfl, rfl, by rw [List.size_toArray, areInts.length]; exact few, by simpa using rv⟩) (fun b u z => by cases (show (none : Option HO) = some u from z)) (fun b z => absurd rfl z)
theorem walkG {l : PySem.W.OpenLaw} {n k : Nat} {q : Program} {loose : List Str} {XP : (Str → Option Value) → Heap → Prop} {YP : World → Heap → Prop} {d : DefRec} {K : Params → PySem.W.Frag} {sp : World → Sp} {x : Str}
    (hn : l.most = some n) (hn2 : n ≤ sizeLine) (hdf : d.params.defaults = []) (hr : Room k callerA) (hY : ∀ (w : World) (h : Heap), YP w h → (K w.params).In h)
    (F : ∀ (w : World) (mg : Str → Option Value) (fa : Addr) (h : Heap), (K w.params).In h → h.Ns mainGlobals mg → mg d.name = some (.ref fa) →
      ∃ fd : FuncData, (∀ (s : Shared) (u : Value), BindsTo s fd ⟨[u], []⟩ [(x, u)]) ∧ ∀ base : Heap, (K w.params).In base → base.Ns mainGlobals mg → FnG l.prog w (K w.params) mg base CX0 k fa fd [x] (sp w))
    (hsp : ∀ (w : World) (H : Hp) (a : Addr) (ns : List Int), ns.length ≤ n → Only H → SqL (K w.params) H a (ns.map V.int) → sp w [.ref a] H (fun v _ => v = .bl true) fun _ _ _ => False) :
    PySem.W.WalkO q loose XP YP l.row.toRowW d [] (fun f vs => PySem.call f vs) := by
  refine Att.attach_call hn hdf fun w s0 s1 mg mb fa o pm cd doc a us ns G Y ho hd hcd hmg hobj hints hlen hg => ?_
  have KX := hY w _ Y
  obtain ⟨fd, hb, hF⟩ := F w mg fa _ KX G.T.g hmg
  exact lawG KX G.T.g G.T.b G.T.builtins G.T.nolimit hg hobj hints (Nat.le_trans hlen hn2) hr hF hb fun H only sq => hsp w H a ns hlen only sq
end
/-! ### heaps -/
theorem same_new {H : Hp} {p : Addr} {o : HO} (h : H p = none) : Same H (upd H p o) := fun b x e => by
  rw [upd_ne (ne_of_none e h)]
  exact e
/-- what is new in H1 may change: nothing of H does -/
theorem same_mut {H H1 : Hp} {p : Addr} {o : HO} (e : Same H H1) (h : H p = none) : Same H (upd H1 p o) := fun b x q => by
  rw [upd_ne (ne_of_none q h)]
  exact e b x q
theorem alloc {H : Hp} {o : HO} {Q : VK} (h : ∀ p H', H p = none → Same H H' → H' p = some o → Q (.ref p) H') : ∀ p, H p = none → Q (.ref p) (upd H p o) :=
  fun p np => h p _ np (same_new np) upd_same
theorem sqt {K : PySem.W.Frag} {H : Hp} {a : Addr} {xs : List V} (h : H a = some (.tup xs)) : SqT K H a xs := .inl (.inl h)
theorem sql {K : PySem.W.Frag} {H : Hp} {a : Addr} {xs : List V} (h : H a = some (.lst xs)) : SqL K H a xs := .inl (.inl h)
theorem ty_tup {K : PySem.W.Frag} {H : Hp} {a : Addr} {xs : List V} (h : H a = some (.tup xs)) : TyX K H (.ref a) (.type "tuple") := .base (.tup h)
theorem ty_lst {K : PySem.W.Frag} {H : Hp} {a : Addr} {xs : List V} (h : H a = some (.lst xs)) : TyX K H (.ref a) (.type "list") := .base (.lst h)
theorem ty_int {K : PySem.W.Frag} {H : Hp} (i : Int) : TyX K H (.int i) (.type "int") := .base (.int i)
theorem ty_bl {K : PySem.W.Frag} {H : Hp} (i : Bool) : TyX K H (.bl i) (.type "bool") := .base (.bl i)
theorem k_ii {K : PySem.W.Frag} : PySem.W.kitOne K (.type "int") (.type "int") = some true := kit_ty (by decide +kernel)
theorem k_ib {K : PySem.W.Frag} : PySem.W.kitOne K (.type "int") (.type "bool") = some false := kit_ty (by decide +kernel)
theorem k_bb {K : PySem.W.Frag} : PySem.W.kitOne K (.type "bool") (.type "bool") = some true := kit_ty (by decide +kernel)
theorem k_bi {K : PySem.W.Frag} : PySem.W.kitOne K (.type "bool") (.type "int") = some true := kit_ty (by decide +kernel)
theorem k_tt {K : PySem.W.Frag} : PySem.W.kitOne K (.type "tuple") (.type "tuple") = some true := kit_ty (by decide +kernel)
theorem k_ll {K : PySem.W.Frag} : PySem.W.kitOne K (.type "list") (.type "list") = some true := kit_ty (by decide +kernel)
/-! ### data -/
/-- a tie at a value -/
def Pr (H : Hp) (x : V) (t : Int × Int) : Prop := ∃ b, x = .ref b ∧ H b = some (.tup [.int t.1, .int t.2])
/-- a list of ties at an address -/
def IsP (H : Hp) (a : Addr) (ts : List (Int × Int)) : Prop := ∃ xs, H a = some (.lst xs) ∧ Paired (Pr H) xs ts
/-- a web at a value -/
def IsW (H : Hp) (v : V) (n : Int) (ts : List (Int × Int)) : Prop := ∃ p a, v = .ref p ∧ H p = some (.tup [.int n, .ref a]) ∧ IsP H a ts
theorem Pr.mono {H H' : Hp} (e : Same H H') {x : V} {t : Int × Int} (h : Pr H x t) : Pr H' x t := let ⟨b, e1, e2⟩ := h; ⟨b, e1, e _ _ e2⟩
theorem Prs.mono {H H' : Hp} (e : Same H H') {xs : List V} {ts : List (Int × Int)} (h : Paired (Pr H) xs ts) : Paired (Pr H') xs ts := Paired.mapP h fun _ _ => Pr.mono e
theorem IsP.mono {H H' : Hp} (e : Same H H') {a : Addr} {ts : List (Int × Int)} (h : IsP H a ts) : IsP H' a ts := let ⟨xs, e1, e2⟩ := h; ⟨xs, e _ _ e1, Prs.mono e e2⟩
theorem IsW.mono {H H' : Hp} (e : Same H H') {v : V} {n : Int} {ts : List (Int × Int)} (h : IsW H v n ts) : IsW H' v n ts := let ⟨p, a, e1, e2, e3⟩ := h; ⟨p, a, e1, e _ _ e2, e3.mono e⟩
theorem paired_get {α β : Type} {F : α → β → Prop} : ∀ {xs : List α} {ys : List β}, Paired F xs ys → ∀ {i : Nat} {x : α}, xs[i]? = some x → ∃ y, ys[i]? = some y ∧ F x y
  | _, _, .nil, i, x, h => by simp at h
  | _, _, .cons (a := a) (b := b) hd tl, 0, x, h => ⟨_, rfl, by
      have e := Option.some.inj h
      rw [← e]
      exact hd⟩
  | _, _, .cons hd tl, i + 1, x, h => paired_get tl (i := i) h
/-- ties in order -/
def ltT (t u : Int × Int) : Prop := t.1 < u.1 ∨ (t.1 = u.1 ∧ t.2 < u.2)
structure WebOk (n : Int) (ts : List (Int × Int)) : Prop where
  lo : 1 ≤ n
  hi : n ≤ 40
  few : ts.length ≤ 120
  good : ∀ t ∈ ts, 0 ≤ t.1 ∧ t.1 < t.2 ∧ t.2 < n
  ord : ts.Pairwise ltT
/-! ### new objects: the heap behind is a letter -/
/-- whatever new object o is laid into H -/
def Nw (H : Hp) (o : HO) (Q : VK) : Prop := ∀ p H', H p = none → Same H H' → H' p = some o → Q (.ref p) H'
theorem Nw.use {H : Hp} {o : HO} {Q : VK} (h : Nw H o Q) (p : Addr) (np : H p = none) : Q (.ref p) (upd H p o) := h p _ np (same_new np) upd_same
def tTupG (t : TA) : TE := fun σ H Q => t σ H fun xs H1 => xs.length ≤ sizeLine ∧ Nw H1 (.tup xs) Q
def tLstG (t : TA) : TE := fun σ H Q => t σ H fun xs H1 => xs.length ≤ sizeLine ∧ Nw H1 (.lst xs) Q
def tLstRgG (te : L2.St → Hp → (Int → Int → Hp → Prop) → Prop) : TE := fun σ H Q => te σ H fun a b H1 => RgOk a b ∧ Nw H1 (.lst (rgV a b)) Q
def tDNewTG : TE := fun _ H Q => Nw H (.dT []) Q
abbrev rCatG : R2 := fun x y H Q => ∃ l b xs zs, x = .ref l ∧ y = .ref b ∧ H l = some (.lst xs) ∧ H b = some (.lst zs) ∧ xs.length + zs.length ≤ sizeLine ∧ Nw H (.lst (xs ++ zs)) Q
abbrev rRepG : R2 := fun x y H Q => ∃ l k xs, x = .ref l ∧ y = .int k ∧ H l = some (.lst xs) ∧ -(2 ^ 63) ≤ k ∧ k < 2 ^ 63 ∧ xs.length * k.toNat ≤ sizeLine ∧ Nw H (.lst (List.replicate k.toNat xs).flatten) Q
abbrev rSlLG (K : PySem.W.Frag) : V → Option Int → Option Int → Hp → VK → Prop := fun x lo hi H Q => ∃ a xs, x = .ref a ∧ SqL K H a xs ∧ Nw H (.lst (cutV xs lo hi)) Q
abbrev rListOfG (K : PySem.W.Frag) : List V → Hp → VK → Prop := fun xs H Q => ∃ p ys, xs = [.ref p] ∧ (SqL K H p ys ∨ SqT K H p ys) ∧ Nw H (.lst ys) Q
/-- sorted of ints -/
abbrev rSrtIG (K : PySem.W.Frag) : List V → Hp → VK → Prop := fun vs H Q => ∃ (a : Addr) (ns : List Int), vs = [V.ref a] ∧ SqL K H a (ns.map V.int) ∧ Nw H (.lst ((ns.mergeSort (fun a b => decide (a ≤ b))).map V.int)) Q
section
variable {X : Cx} {es : List Expr} {t : TA} {pos : Pos}
theorem pe_tupG {x1} (h : PA X es t) : PE X (.Tuple es x1 pos) (tTupG t) := by
  refine ⟨fun pins s σ H Q I hq => ?_⟩
  refine wpAny_Tuple_spliced (thn (h.run pos pins s σ H _ I hq) fun us s1 ⟨xs, H1, I1, r, z, q⟩ => ⟨by rw [← r.length]; exact z, ?_⟩)
  have hf : H1 s1.heap.objs.size = none := I1.hok.fresh (Nat.le_refl _)
  refine ⟨.ref s1.heap.objs.size, upd H1 s1.heap.objs.size (.tup xs), I1.laid (t' := s1.toks) (fun b u e => Heap.get?_push_of_some _ e) (Nat.le_refl _) ?_, rfl, q.use _ hf⟩
  exact ⟨z, us, r, ⟨_, Heap.get?_push_size _ rfl, rfl, _, rfl⟩⟩
theorem pe_lstG (h : PA X es t) : PE X (.List es pos) (tLstG t) := by
  refine ⟨fun pins s σ H Q I hq => ?_⟩
  refine wpAny_List_spliced (thn (h.run pos pins s σ H _ I hq) fun us s1 ⟨xs, H1, I1, r, z, q⟩ => ⟨by rw [← r.length]; exact z, ?_⟩)
  have hf : H1 s1.heap.objs.size = none := I1.hok.fresh (Nat.le_refl _)
  refine ⟨.ref s1.heap.objs.size, upd H1 s1.heap.objs.size (.lst xs), I1.laid (t' := s1.toks) (fun b u e => Heap.get?_push_of_some _ e) (Nat.le_refl _) ?_, rfl, q.use _ hf⟩
  exact ⟨z, us, 0, r, Heap.get?_push_size _ rfl⟩
theorem pe_dnewTG : PE X (.Dict [] [] pos) tDNewTG := ⟨fun pins s σ H Q I h => pe_dnewT.run pins s σ H Q I h.use⟩
theorem pe_listRgG {e : Expr} {te : L2.St → Hp → (Int → Int → Hp → Prop) → Prop} {p pos : Pos} (hc : X.calm = true) (hg : Gl X "list") (hm : X.mg "list" = none) (he : PRg X e te) (na : starEach [e] X.env = (false, eval e X.env) :: starEach [] X.env := by rfl) : PE X (.Call (.Name "list" p) [e] [] pos) (tLstRgG te) := by
  refine ⟨fun pins s σ H Q I h => ?_⟩
  refine Call_ (ld_blt I hg hm boot_list (PyProof.Rows.callWith_type1 (args_cons (thn (he pins s σ H _ I h) fun x s1 ⟨r, a, b, t, u, v, H1, ex, hr, I1, ok, q⟩ => args_nil ?_) na) na))
  subst ex
  obtain ⟨b1, b2, b3, b4, b5⟩ := ok
  refine call_list_range (n := (b - a).toNat) (I1.ok.hd hc) hr (small_one b1 b2 b3 b4) (rangeSize_nat a b) b5 fun h' tk acc c' hk e' hi => ?_
  refine ⟨.ref s1.heap.objs.size, upd H1 s1.heap.objs.size (.lst (rgV a b)), I1.laid hk (Nat.le_refl _) (show ObjOk X.prog X.w _ _ _ (.lst (rgV a b)) from ⟨?_, acc.toList, c', vals_rg hi, ?_⟩), rfl, q.use _ (I1.hok.fresh (Nat.le_refl _))⟩
  · rw [rgV_length, sizeLine_eq]; omega
  · rw [Array.toArray_toList]; exact e'
theorem op_catG : OpR X (binaryOp .Add) rCatG := fun pins s σ H x y u v Q I rx ry h => by
  obtain ⟨l, b, xs, zs, e1, e2, e3, e4, e5, q⟩ := h
  exact op_cat pins s σ H x y u v Q I rx ry ⟨l, b, xs, zs, e1, e2, e3, e4, e5, q.use⟩
theorem op_repG : OpR X (binaryOp .Mult) rRepG := fun pins s σ H x y u v Q I rx ry h => by
  obtain ⟨l, k, xs, e1, e2, e3, e4, e5, e6, q⟩ := h
  exact op_rep pins s σ H x y u v Q I rx ry ⟨l, k, xs, e1, e2, e3, e4, e5, e6, q.use⟩
theorem call_list_ofG : CallR X (.type "list") (rListOfG X.K) := fun pins s σ H xs us Q I r h => by
  obtain ⟨p, ys, e1, e2, q⟩ := h
  exact call_list_of pins s σ H xs us Q I r ⟨p, ys, e1, e2, q.use⟩
end
/-! ### two sorted lists of one content are one -/
theorem sorted_uniq {α : Type} {le : α → α → Prop} (anti : ∀ a b, le a b → le b a → a = b) : ∀ {l m : List α}, l.Pairwise le → m.Pairwise le → l.Perm m → l = m
  | [], m, _, _, h => (List.Perm.eq_nil h.symm).symm
  | x :: l, [], _, _, h => absurd h.length_eq (by simp)
  | x :: l, y :: m, hl, hm, h => by
    have hx : x = y ∨ x ∈ m := List.mem_cons.mp (h.mem_iff.mp List.mem_cons_self)
    have hy : y = x ∨ y ∈ l := List.mem_cons.mp (h.mem_iff.mpr List.mem_cons_self)
    have e : x = y := by
      rcases hx with e | hx
      · exact e
      · rcases hy with e | hy
        · exact e.symm
        · exact anti _ _ ((List.pairwise_cons.mp hl).1 y hy) ((List.pairwise_cons.mp hm).1 x hx)
    subst e
    rw [sorted_uniq anti (List.pairwise_cons.mp hl).2 (List.pairwise_cons.mp hm).2 h.cons_inv]
theorem ints_sorted (ns : List Int) : (ns.mergeSort (fun a b => decide (a ≤ b))).Pairwise (· ≤ ·) := by
  have h := List.pairwise_mergeSort (le := fun a b : Int => decide (a ≤ b)) (fun a b c h1 h2 => by simp only [decide_eq_true_eq] at *; omega) (fun a b => by simp only [Bool.or_eq_true, decide_eq_true_eq]; omega) ns
  exact h.imp fun h => of_decide_eq_true h
theorem ints_uniq {ns ms : List Int} (h : ms.Perm ns) (s : ms.Pairwise (· ≤ ·)) : ms = ns.mergeSort (fun a b => decide (a ≤ b)) :=
  sorted_uniq (fun a b h1 h2 => Int.le_antisymm h1 h2) s (ints_sorted ns) (h.trans (List.mergeSort_perm ns _).symm)
def leT (t u : Int × Int) : Bool := !SrtO.lexB u t
theorem leT_iff {t u : Int × Int} : leT t u = true ↔ t.1 < u.1 ∨ (t.1 = u.1 ∧ t.2 ≤ u.2) := by
  unfold leT
  rw [Bool.not_eq_true', SrtO.lexB_no]
  omega
/-- ties sorted -/
def srt (ts : List (Int × Int)) : List (Int × Int) := ts.mergeSort leT
theorem srt_sorted (ts : List (Int × Int)) : (srt ts).Pairwise (fun a b => leT a b = true) :=
  List.pairwise_mergeSort (le := leT) (fun a b c h1 h2 => by rw [leT_iff] at *; omega) (fun a b => by rw [Bool.or_eq_true, leT_iff, leT_iff]; omega) ts
theorem srt_perm (ts : List (Int × Int)) : (srt ts).Perm ts := List.mergeSort_perm ts leT
theorem leT_anti (a b : Int × Int) (h1 : leT a b = true) (h2 : leT b a = true) : a = b := by
  rw [leT_iff] at h1 h2
  have e1 : a.1 = b.1 := by omega
  have e2 : a.2 = b.2 := by omega
  exact Prod.ext e1 e2
theorem srt_uniq {ts us : List (Int × Int)} (h : us.Perm ts) (s : us.Pairwise (fun a b => leT a b = true)) : us = srt ts :=
  sorted_uniq leT_anti s (srt_sorted ts) (h.trans (srt_perm ts).symm)
section
variable {X : Cx}
theorem cr_srtIG : CallR X (.builtin "sorted") (rSrtIG X.K) := fun pins s σ H xs us Q I r h => by
  obtain ⟨a, ns, e1, e2, q⟩ := h
  exact cr_sortedI pins s σ H xs us Q I r ⟨a, ns, e1, e2, fun ns' p pm so np => by rw [ints_uniq pm so]; exact q.use p np⟩
end
/-! ### sorted(d), d a dict of ties -/
abbrev keyT (t : Int × Int) : List L2.Key := [Sum.inl t.1, Sum.inl t.2]
def tdict (ts : List (Int × Int)) : List (List L2.Key × V) := ts.map fun t => (keyT t, V.bl true)
/-- the pair of ints at a value -/
def kH (H : Hp) : Value → Int × Int
  | .ref b => match H b with | some (.tup [.int i, .int j]) => (i, j) | _ => (0, 0)
  | _ => (0, 0)
abbrev rSortedDT : List V → Hp → VK → Prop := fun vs H Q => ∃ (d : Addr) (ts : List (Int × Int)), vs = [.ref d] ∧ H d = some (.dT (tdict ts)) ∧
  ∀ p H' xs, H p = none → Same H H' → H' p = some (.lst xs) → Paired (Pr H') xs (srt ts) → Q (.ref p) H'
/-- sorted(l), l a list of ties -/
abbrev rSortedLT (K : PySem.W.Frag) : List V → Hp → VK → Prop := fun vs H Q => ∃ (a : Addr) (ts : List (Int × Int)), vs = [.ref a] ∧ IsP H a ts ∧
  ∀ p H' xs, H p = none → Same H H' → H' p = some (.lst xs) → Paired (Pr H') xs (srt ts) → Q (.ref p) H'
theorem paired_refs {H : Hp} : ∀ {l : List V}, (∀ v ∈ l, ∃ b i j, v = .ref b ∧ H b = some (.tup [.int i, .int j])) → ∀ k : V → Int × Int, (∀ b i j, H b = some (.tup [.int i, .int j]) → k (.ref b) = (i, j)) → Paired (Pr H) l (l.map k)
  | [], _, _, _ => .nil
  | v :: l, h, k, hk => by
    obtain ⟨b, i, j, rfl, e⟩ := h v List.mem_cons_self
    refine .cons ⟨b, rfl, ?_⟩ (paired_refs (fun v hv => h v (List.mem_cons_of_mem _ hv)) k hk)
    rw [hk b i j e]
    exact e
theorem pr_keys {H : Hp} {k : V → Int × Int} (hk : ∀ b i j, H b = some (.tup [.int i, .int j]) → k (.ref b) = (i, j)) : ∀ {xs : List V} {ts : List (Int × Int)}, Paired (Pr H) xs ts → xs.map k = ts
  | _, _, .nil => rfl
  | _, _, .cons ⟨b, e, h⟩ tl => by
    subst e
    rw [List.map_cons, pr_keys hk tl, hk b _ _ h]
def kV2 (H : Hp) : V → Int × Int
  | .ref b => match H b with | some (.tup [.int i, .int j]) => (i, j) | _ => (0, 0)
  | _ => (0, 0)
theorem kV2_at {H : Hp} (b : Addr) (i j : Int) (h : H b = some (.tup [.int i, .int j])) : kV2 H (.ref b) = (i, j) := by
  show (match H b with | some (.tup [.int i, .int j]) => (i, j) | _ => (0, 0)) = (i, j)
  rw [h]
theorem srtd_leT {α : Type} {k : α → Int × Int} {l : List α} (h : SrtO.Srtd (fun x y => SrtO.lexB (k x) (k y)) l) : (l.map k).Pairwise (fun a b => leT a b = true) := by
  refine List.pairwise_map.mpr (List.Pairwise.imp (fun {a b} q => ?_) h)
  unfold leT
  rw [show SrtO.lexB (k b) (k a) = false from q]
  rfl
section
variable {X : Cx}
theorem cr_sortedLT : CallR X (.builtin "sorted") (rSortedLT X.K) := fun pins s σ H vs us Q I r h => by
  obtain ⟨a, ts, rfl, ⟨xs, ha, hx⟩, q⟩ := h
  refine cr_sortedPO pins s σ H _ us Q I r ⟨a, xs, kV2 H, rfl, sql ha, fun x hm => ?_, fun ys p so st np => ?_⟩
  · obtain ⟨i, hi, e⟩ := List.mem_iff_getElem.mp hm
    obtain ⟨t, _, b, rfl, hb⟩ := paired_get hx (List.getElem?_eq_some_iff.mpr ⟨hi, e⟩)
    refine ⟨b, rfl, ?_⟩
    rw [kV2_at b _ _ hb]
    exact hb
  · have hm : ∀ v ∈ ys, ∃ b i j, v = V.ref b ∧ H b = some (.tup [.int i, .int j]) := fun v hv => by
      obtain ⟨i, hi, e⟩ := List.mem_iff_getElem.mp (st.perm.mem_iff.mp hv)
      obtain ⟨t, _, b, rfl, hb⟩ := paired_get hx (List.getElem?_eq_some_iff.mpr ⟨hi, e⟩)
      exact ⟨b, _, _, rfl, hb⟩
    have hp := paired_refs hm (kV2 H) kV2_at
    have e : ys.map (kV2 H) = srt ts := srt_uniq (by rw [← pr_keys (k := kV2 H) kV2_at hx]; exact st.perm.map _) (srtd_leT so)
    rw [e] at hp
    exact q p _ ys np (same_new np) upd_same (Prs.mono (same_new np) hp)
theorem isKeys_pr {H : Hp} : ∀ {ts : List (Int × Int)} {bs : List Addr}, IsKeys H (tdict ts) bs → Paired (Pr H) (bs.map V.ref) ts
  | [], _, h => by
    cases h
    exact .nil
  | t :: ts, _, h => by
    cases h with
    | cons hd tl => exact .cons ⟨_, rfl, hd⟩ (isKeys_pr tl)
theorem cr_sortedDT (hc : X.calm = true) : CallR X (.builtin "sorted") rSortedDT := by
  intro pins s σ H xs us Q I r h
  obtain ⟨d, ts, rfl, hd, q⟩ := h
  obtain ⟨u, rfl, rx⟩ := r.one
  cases rx
  obtain ⟨z, hs, ks, pr, o, es, ep, ho, hx, hdt, he, hn⟩ := (show ObjOk X.prog X.w H s.heap d (.dT (tdict ts)) from I.hok _ _ hd)
  have l1 : es.size = ks.length := size_of_entries he
  have l2 : (tdict ts).length = ks.length := Paired.length pr
  have hkeys : IsKeys H (tdict ts) (ks.map fun x => x.2.1) := isKeys_of pr
  generalize hbs : (ks.map fun x => x.2.1) = bs at hkeys
  have hpr : Paired (Pr H) (bs.map V.ref) ts := isKeys_pr hkeys
  refine Calls.call_function_entry PyProof.Rows.kind_sorted PyProof.Rows.plain_sorted PyProof.Rows.entry_sorted (PyProof.Rows.args_sorted1 _) ?_
  unfold Builtin.«sorted»
  refine wpAny_bind (m := checkCount "sorted" 1 1 _) (wpAny_pure ?_)
  refine wpAny_bind (PySem.W.kdu_collect (A := X.A.in1) (kdl_raw hs hx hdt) (I.ok.hd hc) ho (by omega) fun h' tk acc hk hacc => ?_)
  have ea : acc.toList = bs.map Value.ref := by
    have hl : acc.toList.length = ks.length := by rw [Array.length_toList, hacc.1]; exact l1
    rw [← hbs, List.map_map]
    apply List.ext_getElem?
    intro j
    rw [List.getElem?_map]
    cases hj : acc.toList[j]? with
    | none =>
      have h1 := List.getElem?_eq_none_iff.mp hj
      rw [List.getElem?_eq_none (by omega)]
      all_goals rfl
    | some v =>
      obtain ⟨en, hen, hv⟩ := hacc.2 j v (by rw [← Array.getElem?_toList]; exact hj)
      have qe := entry_at he j
      rw [hen] at qe
      cases hb : ks[j]? with
      | none =>
        rw [hb] at qe
        exact nomatch (show some en = none from qe)
      | some b =>
        rw [hb] at qe
        have e2 : en = entryOfKey (tupleKind (mixKind X.prog X.w)) b := Option.some.inj qe
        rw [hv, e2]
        all_goals rfl
  have hlen : acc.toList.length ≤ sizeLine := by
    rw [ea, List.length_map, ← hbs, List.length_map, ← l2]
    exact z
  have I1 : Inv X pins σ H { s with heap := h', toks := tk } := I.kept hk
  refine wpAny_bind (wpAny_newList ?_ hlen)
  have hoL : (h'.push (seqObj "list" acc.toList.toArray 0)).get? h'.objs.size = some (seqObj "list" acc.toList.toArray 0) := Heap.get?_push_size _ rfl
  have hp : ∀ v ∈ acc.toList, Srt.IsPair (h'.push (seqObj "list" acc.toList.toArray 0)) v (kH H v).1 (kH H v).2 := fun v hv => by
    rw [ea] at hv
    obtain ⟨b, hb, rfl⟩ := List.mem_map.mp hv
    obtain ⟨i, hi, e⟩ := List.mem_iff_getElem.mp (List.mem_map.mpr ⟨b, hb, rfl⟩ : V.ref b ∈ bs.map V.ref)
    obtain ⟨t, _, b', e', hb'⟩ := paired_get hpr (List.getElem?_eq_some_iff.mpr ⟨hi, e⟩)
    cases e'
    have ek : kH H (.ref b) = t := by
      show (match H b with | some (.tup [.int i, .int j]) => (i, j) | _ => (0, 0)) = t
      rw [hb']
    rw [ek]
    obtain ⟨_, its2, r2, o2, ho2, hc2, n2, hd2⟩ := I1.hok _ _ hb'
    obtain ⟨u1, u2, rfl, ri, rj⟩ := vals2 r2
    obtain ⟨t1, rfl⟩ := ri
    obtain ⟨t2, rfl⟩ := rj
    exact ⟨b, o2, t1, t2, n2, rfl, Heap.get?_push_of_some _ ho2, hc2, hd2⟩
  show wpAny _ _ _ _ _ { s with heap := h'.push (seqObj "list" acc.toList.toArray 0), toks := tk }
  refine wpAny_bind (wpAny_holding (wpAny_call_entry PyProof.Rows.slot_list_sort ⟨_, hoL, rfl⟩ PyProof.Rows.entry_list_sort
    (SrtO.list_sort_ord (s := { s with heap := h'.push (seqObj "list" acc.toList.toArray 0), toks := tk }) (SrtO.swo_lex (kH H)) hoL hlen
      (fun h2 => SrtO.pairs_sortableO (s := { s with heap := h'.push (seqObj "list" acc.toList.toArray 0), toks := tk }) (by omega) hp fun o e => by
        have e' : some o = some (seqObj "list" acc.toList.toArray 0) := e.symm.trans hoL
        cases e'
        intro c
        exact absurd (Value.type.inj c) (by decide)) fun out so st => ⟨_, rfl, ?_⟩)
    (PyProof.Rows.args_list_sort _)))
  obtain ⟨e', he'⟩ := PyProof.Rows.sortedHeap_at (vs := acc.toList) (out := out.toArray) hoL
  have h3 : ∀ u ∈ out, ∃ a, u = Value.ref a := fun u hu => by
    have hm := st.perm.mem_iff.mp hu
    rw [ea] at hm
    obtain ⟨b, _, rfl⟩ := List.mem_map.mp hm
    exact ⟨b, rfl⟩
  have hv : Vals (out.map backV) out := vals_back h3
  have hm : ∀ v ∈ out.map backV, ∃ b i j, v = V.ref b ∧ H b = some (.tup [.int i, .int j]) := fun v hv => by
    obtain ⟨u, hu, rfl⟩ := List.mem_map.mp hv
    have hm := st.perm.mem_iff.mp hu
    rw [ea] at hm
    obtain ⟨b, hb, rfl⟩ := List.mem_map.mp hm
    obtain ⟨i, hi, e⟩ := List.mem_iff_getElem.mp (List.mem_map.mpr ⟨b, hb, rfl⟩ : V.ref b ∈ bs.map V.ref)
    obtain ⟨t, _, b', e', hb'⟩ := paired_get hpr (List.getElem?_eq_some_iff.mpr ⟨hi, e⟩)
    cases e'
    exact ⟨b, _, _, rfl, hb'⟩
  have hpo := paired_refs hm (kV2 H) kV2_at
  have ek : ∀ l : List Value, (∀ u ∈ l, ∃ a, u = Value.ref a) → (l.map backV).map (kV2 H) = l.map (kH H) := fun l hl => by
    rw [List.map_map]
    refine List.map_congr_left fun u hu => ?_
    obtain ⟨a, rfl⟩ := hl u hu
    rfl
  have eo : (out.map backV).map (kV2 H) = srt ts := by
    rw [ek out h3]
    refine srt_uniq ?_ (srtd_leT so)
    have e1 : acc.toList.map (kH H) = ts := by
      rw [ea, ← pr_keys (k := kV2 H) kV2_at hpr, List.map_map, List.map_map]
      rfl
    rw [← e1]
    exact st.perm.map _
  rw [eo] at hpo
  have hz : (out.map backV).length ≤ sizeLine := by
    rw [List.length_map, st.perm.length_eq]
    exact hlen
  refine wpAny_pure ⟨_, rfl, .ref h'.objs.size, upd H h'.objs.size (.lst (out.map backV)), ?_, rfl, ?_⟩
  · refine I1.laid (t' := tk) (fun b u e => ?_) (Nat.le_refl _) (show ObjOk X.prog X.w _ _ _ (.lst (out.map backV)) from ⟨hz, out, e', hv, he'⟩)
    have hb : b < h'.objs.size := Heap.lt_size e
    rw [PyProof.Rows.sortedHeap_old (Nat.ne_of_lt hb) (by rw [size_push']; exact Nat.lt_succ_of_lt hb)]
    exact Heap.get?_push_of_some _ e
  · exact q _ _ (out.map backV) (I1.hok.fresh (Nat.le_refl _)) (same_new (I1.hok.fresh (Nat.le_refl _))) upd_same (Prs.mono (same_new (I1.hok.fresh (Nat.le_refl _))) hpo)
end
section
variable {X : Cx}
theorem sl_listG : SlR X (rSlLG X.K) := fun pins s σ H x v vl vu lo hi sl Q I rx hs pl pu h => by
  obtain ⟨l, xs, e1, e2, q⟩ := h
  exact sl_list pins s σ H x v vl vu lo hi sl Q I rx hs pl pu ⟨l, xs, e1, e2, q.use⟩
end
/-! ### comprehensions -/
section
variable {J : It} {n : Nat} {G : Hp → Prop} {Y : Nat → Hp → V → Hp → Prop} {g : TG} {tt : TT} {te : TE} {vs : List Nat} {σ : L2.St} {H1 : Hp} {D : Addr} {Qd : Hp → Prop}
theorem filter_range_succ (p : Nat → Bool) (i : Nat) : (List.range (i + 1)).filter p = (List.range i).filter p ++ (if p i then [i] else []) := by
  rw [List.range_succ, List.filter_append]
  congr 1
  simp [List.filter_cons]
/-- elements are scalars or things that stand already: what is told is known ahead -/
theorem lc_pure (w : Walk J n G Y) (nD : H1 D = none) (f : Nat → V) (p : Nat → Bool) (hn : n < sizeLine) (hG : ∀ H, Same H1 H → G H)
    (hs : ∀ (i : Nat) (x : V) (H H' : Hp) (Nx : V → Hp → Prop) (Ny : Hp → Prop), i < n → Same H1 H → Y i H x H' → (p i = true → ∀ H4, Same H H4 → Nx (f i) H4) → (p i = false → ∀ H3, Same H H3 → Ny H3) →
      g x (wipe σ vs) H' fun σ2 H2 => wipe σ2 vs = wipe σ vs ∧ tt σ2 H2 fun b H3 => if b = true then te σ2 H3 Nx else Ny H3)
    (hd : ∀ H, Same H1 H → H D = some (.lst (((List.range n).filter p).map f)) → Qd H) :
    ∃ W : Nat → Nat → Hp → Prop, (∃ m, W 0 m (upd H1 D (.lst []))) ∧ ∀ i m H, W i m H →
      (J.stop i H ∧ Qd H) ∨ (J.go i H ∧ ∃ Nx : Hp → Prop, (∀ H', Nx H' → ∃ m', m' < m ∧ W (i + 1) m' H') ∧ ∀ x H', J.yld i H x H' → g x (wipe σ vs) H' fun σ2 H2 => wipe σ2 vs = wipe σ vs ∧ tt σ2 H2 fun b H3 =>
        if b = true then te σ2 H3 fun y H4 => ∃ acc, H4 D = some (.lst acc) ∧ acc.length < sizeLine ∧ Nx (upd H4 D (.lst (acc ++ [y]))) else Nx H3) := by
  refine lc_it w (fun i H => Same H1 H ∧ H D = some (.lst (((List.range i).filter p).map f))) ⟨same_new nD, upd_same⟩ (fun i H _ h => hG H h.1) (fun i x H H' hi h y => ?_) (fun H h => hd H h.1 h.2)
  refine hs i x H H' _ _ hi h.1 y (fun eb H4 q4 => ?_) (fun eb H3 q3 => ?_)
  · refine ⟨_, q4 _ _ h.2, ?_, same_mut (h.1.trans q4) nD, ?_⟩
    · rw [List.length_map]
      have := List.length_filter_le p (List.range i)
      rw [List.length_range] at this
      omega
    · rw [upd_same, filter_range_succ, eb]
      simp
  · refine ⟨h.1.trans q3, ?_⟩
    rw [filter_range_succ, eb]
    simp only [Bool.false_eq_true, if_false, List.append_nil]
    exact q3 _ _ h.2
/-- each element is a new object of its own, known ahead -/
theorem lc_objs (w : Walk J n G Y) (nD : H1 D = none) (o : Nat → HO) (hn : n < sizeLine) (hG : ∀ H, Same H1 H → G H)
    (hs : ∀ (i : Nat) (x : V) (H H' : Hp) (Nx : V → Hp → Prop) (Ny : Hp → Prop), i < n → Same H1 H → Y i H x H' → (∀ b H4, H b = none → Same H H4 → H4 b = some (o i) → Nx (.ref b) H4) →
      g x (wipe σ vs) H' fun σ2 H2 => wipe σ2 vs = wipe σ vs ∧ tt σ2 H2 fun b H3 => if b = true then te σ2 H3 Nx else Ny H3)
    (hd : ∀ (H : Hp) (bs : List Addr), Same H1 H → H D = some (.lst (bs.map V.ref)) → bs.length = n → bs.Nodup → (∀ (i : Nat) b, bs[i]? = some b → H b = some (o i) ∧ H1 b = none ∧ b ≠ D) → Qd H) :
    ∃ W : Nat → Nat → Hp → Prop, (∃ m, W 0 m (upd H1 D (.lst []))) ∧ ∀ i m H, W i m H →
      (J.stop i H ∧ Qd H) ∨ (J.go i H ∧ ∃ Nx : Hp → Prop, (∀ H', Nx H' → ∃ m', m' < m ∧ W (i + 1) m' H') ∧ ∀ x H', J.yld i H x H' → g x (wipe σ vs) H' fun σ2 H2 => wipe σ2 vs = wipe σ vs ∧ tt σ2 H2 fun b H3 =>
        if b = true then te σ2 H3 fun y H4 => ∃ acc, H4 D = some (.lst acc) ∧ acc.length < sizeLine ∧ Nx (upd H4 D (.lst (acc ++ [y]))) else Nx H3) := by
  refine lc_it w (fun i H => ∃ bs : List Addr, Same H1 H ∧ H D = some (.lst (bs.map V.ref)) ∧ bs.length = i ∧ bs.Nodup ∧ ∀ (j : Nat) b, bs[j]? = some b → H b = some (o j) ∧ H1 b = none ∧ b ≠ D)
    ⟨[], same_new nD, upd_same, rfl, List.nodup_nil, fun j b e => by simp at e⟩ (fun i H _ ⟨bs, h, _⟩ => hG H h) (fun i x H H' hi ⟨bs, h, hD, hl, nd, hb⟩ y => ?_) (fun H ⟨bs, h, hD, hl, nd, hb⟩ => hd H bs h hD hl nd hb)
  refine hs i x H H' _ _ hi h y (fun b H4 nb q4 hb4 => ?_)
  have nbD : b ≠ D := fun e => by
    rw [e, hD] at nb
    cases nb
  refine ⟨_, q4 _ _ hD, ?_, bs ++ [b], same_mut (h.trans q4) nD, ?_, ?_, ?_, fun j c e => ?_⟩
  · rw [List.length_map]
    omega
  · rw [upd_same, List.map_append]
    rfl
  · rw [List.length_append]
    show bs.length + 1 = i + 1
    omega
  · refine List.nodup_append.mpr ⟨nd, by simp, fun x hx z hz e => ?_⟩
    have e2 : z = b := by simpa using hz
    subst e2
    subst e
    obtain ⟨j, hj, e⟩ := List.mem_iff_getElem.mp hx
    rw [(hb j x (List.getElem?_eq_some_iff.mpr ⟨hj, e⟩)).1] at nb
    cases nb
  · rcases Nat.lt_or_ge j bs.length with hj | hj
    · rw [List.getElem?_append_left hj] at e
      obtain ⟨e1, e2, e3⟩ := hb j c e
      exact ⟨by rw [upd_ne e3]; exact q4 _ _ e1, e2, e3⟩
    · rw [List.getElem?_append_right hj] at e
      have hj0 : j - bs.length = 0 := by
        rcases Nat.eq_zero_or_pos (j - bs.length) with z | z
        · exact z
        · rw [List.getElem?_eq_none (by simp; omega)] at e
          cases e
      rw [hj0] at e
      have e1 : b = c := Option.some.inj e
      subst e1
      have e2 : j = i := by omega
      subst e2
      exact ⟨by rw [upd_ne nbD]; exact hb4, h.free nb, nbD⟩
/-- elements are ints, none left out -/
theorem lc_ints (w : Walk J n G Y) (nD : H1 D = none) (f : Nat → Int) (hn : n < sizeLine) (hG : ∀ H, Same H1 H → G H)
    (hs : ∀ (i : Nat) (x : V) (H H' : Hp) (Nx : V → Hp → Prop) (Ny : Hp → Prop), i < n → Same H1 H → Y i H x H' → (∀ H4, Same H H4 → Nx (.int (f i)) H4) →
      g x (wipe σ vs) H' fun σ2 H2 => wipe σ2 vs = wipe σ vs ∧ tt σ2 H2 fun b H3 => if b = true then te σ2 H3 Nx else Ny H3)
    (hd : ∀ H, Same H1 H → H D = some (.lst (((List.range n).map f).map V.int)) → Qd H) :
    ∃ W : Nat → Nat → Hp → Prop, (∃ m, W 0 m (upd H1 D (.lst []))) ∧ ∀ i m H, W i m H →
      (J.stop i H ∧ Qd H) ∨ (J.go i H ∧ ∃ Nx : Hp → Prop, (∀ H', Nx H' → ∃ m', m' < m ∧ W (i + 1) m' H') ∧ ∀ x H', J.yld i H x H' → g x (wipe σ vs) H' fun σ2 H2 => wipe σ2 vs = wipe σ vs ∧ tt σ2 H2 fun b H3 =>
        if b = true then te σ2 H3 fun y H4 => ∃ acc, H4 D = some (.lst acc) ∧ acc.length < sizeLine ∧ Nx (upd H4 D (.lst (acc ++ [y]))) else Nx H3) := by
  refine lc_pure w nD (fun i => .int (f i)) (fun _ => true) hn hG (fun i x H H' Nx Ny hi s1 y hx hy => hs i x H H' Nx Ny hi s1 y (hx rfl)) fun H s1 hD => hd H s1 ?_
  rw [hD, List.filter_eq_self.mpr (fun _ _ => rfl), List.map_map]
  rfl
end
theorem walk_rng0 {n : Nat} : Walk (Itr 0 n) n (fun _ => True) (YFn fun i => .int ((i : Nat) : Int)) :=
  walk_range.mono (fun _ h => h) fun i H x H' _ _ y => ⟨y.1, by rw [y.2]; show V.int (0 + (i : Int)) = V.int (i : Int); rw [Int.zero_add]⟩
end G39

/-! repr of data. -/
namespace G39
open PySem PySem.Spec PyProof.Rows L2
/-- repr(x): x data at an address, or a text -/
abbrev rRepr (K : PySem.W.Frag) : List V → Hp → VK → Prop := fun xs H Q => ∃ (a : Addr) (d : PyData), xs = [.ref a] ∧ Dp K H (.ref a) d ∧ SeqAt.shaped d = true ∧ d.showable = true ∧ d.shown.length ≤ sizeLine ∧ Q (.str d.shown) H
section
variable {X : Cx}
theorem cr_repr {k : Nat} (hr : Room k X.A) (gd : X.A.guards = some []) : CallR X (.builtin "repr") (rRepr X.K) := by
  intro pins s σ H xs us Q I r h
  obtain ⟨a, d, rfl, hd, hsh, hs, hz, q⟩ := h
  obtain ⟨u, rfl, ru⟩ := r.one
  obtain rfl : u = Value.ref a := ru
  obtain ⟨as, rd⟩ := Dp.reads I d (.ref a) (.ref a) hd rfl
  have hu := hr.un
  have hdp := SeqAt.depth_of_shaped hsh
  have nod : d.hasDict = false := PyData.hasDict_of_canLay d (SeqAt.canLay_of_shaped hsh)
  exact repr_of_reads' rd hs (fun e => by rw [nod] at e; cases e) gd (by omega) (fun _ _ e => e) (fun h' u tk hk => ⟨.str d.shown, H, I.kept hk, ⟨_, rfl⟩, q⟩) hz
end
/-! sizes of shown data -/
def Sm (b : Nat) (d : PyData) : Prop := d.shown.length ≤ b ∧ d.showable = true
theorem Sm.mono {b c : Nat} {d : PyData} (h : Sm b d) (hb : b ≤ c) : Sm c d := ⟨Nat.le_trans h.1 hb, h.2⟩
theorem shownAll_map : ∀ xs : List PyData, PyData.shownAll xs = xs.map PyData.shown
  | [] => rfl
  | x :: xs => by
    show PyData.shown x :: PyData.shownAll xs = _
    rw [shownAll_map xs]
    rfl
theorem showableAll_of : ∀ {xs : List PyData}, (∀ x ∈ xs, PyData.showable x = true) → PyData.showableAll xs = true
  | [], _ => rfl
  | x :: xs, h => by
    show (PyData.showable x && PyData.showableAll xs) = true
    rw [h x List.mem_cons_self, showableAll_of fun y hy => h y (List.mem_cons_of_mem _ hy)]
    rfl
theorem app_len (x y : Str) : (x ++ y).length = x.length + y.length := by
  first | exact Str.length_append x y | exact PySem.Str.length_append x y | simp
theorem textFrom_le {b : Nat} : ∀ (ts : List Str) (k : Nat) (acc : Str), (∀ t ∈ ts, t.length ≤ b) → (textFrom k acc ts).length ≤ acc.length + ts.length * (b + 2)
  | [], k, acc, _ => by
    show acc.length ≤ acc.length + 0 * (b + 2)
    omega
  | t :: ts, k, acc, h => by
    have ih := textFrom_le ts (k + 1) (acc ++ (if k > 0 then ", " else "" : String) ++ t) (fun t' ht => h t' (List.mem_cons_of_mem _ ht))
    show (textFrom (k + 1) (acc ++ (if k > 0 then ", " else "" : String) ++ t) ts).length ≤ _
    have ht := h t List.mem_cons_self
    have hsep : (((if k > 0 then ", " else "" : String)) : Str).length ≤ 2 := by
      split <;> decide
    rw [app_len, app_len] at ih
    rw [List.length_cons, Nat.succ_mul]
    omega
theorem Sm.list {b : Nat} {xs : List PyData} (h : ∀ x ∈ xs, Sm b x) : Sm (2 + xs.length * (b + 2)) (.list xs) := by
  refine ⟨?_, showableAll_of fun x hx => (h x hx).2⟩
  show (listText (PyData.shownAll xs)).length ≤ _
  rw [shownAll_map]
  unfold listText
  rw [app_len]
  have := textFrom_le (b := b) (xs.map PyData.shown) 0 "[" (fun t ht => by
    obtain ⟨x, hx, rfl⟩ := List.mem_map.mp ht
    exact (h x hx).1)
  rw [List.length_map] at this
  have e1 : (("[" : String) : Str).length = 1 := by decide
  have e2 : (("]" : String) : Str).length = 1 := by decide
  omega
theorem join_le {b : Nat} : ∀ (ts : List Str), (∀ t ∈ ts, t.length ≤ b) → (Str.join ", " ts).length ≤ ts.length * (b + 2)
  | [], _ => by
    have e : (Str.join ", " []).length = 0 := by decide
    rw [e]
    exact Nat.zero_le _
  | [x], h => by
    have := h x List.mem_cons_self
    show x.length ≤ 1 * (b + 2)
    omega
  | x :: y :: r, h => by
    have ih := join_le (y :: r) (fun t ht => h t (List.mem_cons_of_mem _ ht))
    have h1 := join_length_add (x :: y :: r) (by simp)
    have h2 := join_length_add (y :: r) (by simp)
    have hx := h x List.mem_cons_self
    have e : piled (x :: y :: r) = x.length + 2 + piled (y :: r) := by simp [piled]
    rw [List.length_cons, Nat.succ_mul]
    omega
theorem Sm.tup {b : Nat} {xs : List PyData} (h : ∀ x ∈ xs, Sm b x) : Sm (3 + xs.length * (b + 2)) (.tuple xs) := by
  refine ⟨?_, showableAll_of fun x hx => (h x hx).2⟩
  show (tupleText (PyData.shownAll xs)).length ≤ _
  rw [shownAll_map]
  unfold tupleText
  rw [app_len, app_len]
  have := join_le (b := b) (xs.map PyData.shown) (fun t ht => by
    obtain ⟨x, hx, rfl⟩ := List.mem_map.mp ht
    exact (h x hx).1)
  rw [List.length_map] at this
  have e1 : (("(" : String) : Str).length = 1 := by decide
  have e2 : (((if (xs.map PyData.shown).length == 1 then ",)" else ")" : String)) : Str).length ≤ 2 := by
    split <;> decide
  omega
theorem log2_lt {n k : Nat} (hk : 0 < k) (h : n < 2 ^ k) : n.log2 < k := by
  rcases Nat.eq_zero_or_pos n with e | e
  · subst e
    simpa using hk
  · exact (Nat.log2_lt (by omega)).mpr h
theorem Sm.int {i : Int} (h : i.natAbs < 2 ^ 60) : Sm 61 (.int i) := by
  have hl : i.natAbs.log2 < 60 := log2_lt (by decide) h
  refine ⟨?_, decide_eq_true (by omega)⟩
  show (Str.ofString (toString i)).length ≤ 61
  have := int_text_length_le (a := i) (k := 60) (by decide) hl
  rw [PySem.ofString_length]
  exact this
theorem Sm.non : Sm 4 .none := ⟨by decide, rfl⟩
theorem Sm.bl (b : Bool) : Sm 5 (.bool b) := by
  cases b
  · exact ⟨by decide, rfl⟩
  · exact ⟨by decide, rfl⟩
end G39

/-! Webs: the program's own defs over good webs. -/
namespace G39
open PySem PySem.Spec PyProof.Rows L2
abbrev Fin (Q : VK) : Ends := { nx := fun _ H' => Q .non H', rt := Q }
/-! is_whole, is_within, is_tie -/
def sp_is_whole (K : PySem.W.Frag) : Sp := fun vs H Q _ => ∃ i : Int, vs = [.int i] ∧ Q (.bl true) H
def t_is_whole (K : PySem.W.Frag) : TS := (tRet (tAndV (tCB (rIsi K) (tCons (tVar 0) (tCons (tC (.ty "int")) tNil))) (tNotV (tCB (rIsi K) (tCons (tVar 0) (tCons (tC (.ty "bool")) tNil))))))
theorem pure_is_whole {K : PySem.W.Frag} {vs : List V} {H : Hp} {Q : VK} {E : XK} (h : sp_is_whole K vs H Q E) : t_is_whole K (Fin Q) (start ["thing"] vs) H := by
  obtain ⟨i, rfl, q⟩ := h
  exact ⟨_, rfl, _, _, _, _, _, rfl, .ty "int", ty_int i, k_ii, _, rfl, iteT ⟨_, rfl, _, _, _, _, _, rfl, .ty "bool", ty_int i, k_ib, _, rfl, q⟩⟩
def sp_is_within (K : PySem.W.Frag) : Sp := fun vs H Q _ => ∃ i lo hi : Int, vs = [.int i, .int lo, .int hi] ∧ Q (.bl (decide (lo ≤ i ∧ i ≤ hi))) H
def t_is_within (K : PySem.W.Frag) : TS := (tRet (tAndV (tCall (sp_is_whole K) [] E0 (tCons (tVar 0) tNil)) (tChain rLe rLe (tVar 1) (tVar 0) (tVar 2))))
theorem pure_is_within {K : PySem.W.Frag} {vs : List V} {H : Hp} {Q : VK} {E : XK} (h : sp_is_within K vs H Q E) : t_is_within K (Fin Q) (start ["thing", "least", "most"] vs) H := by
  obtain ⟨i, lo, hi, rfl, q⟩ := h
  refine ⟨_, rfl, i, rfl, _, rfl, iteT ⟨_, rfl, _, rfl, _, _, rfl, rfl, _, rfl, ?_⟩⟩
  by_cases h1 : lo ≤ i
  · rw [decide_eq_true h1]
    refine iteT ⟨_, rfl, _, _, rfl, rfl, ?_⟩
    have e : decide (i ≤ hi) = decide (lo ≤ i ∧ i ≤ hi) := by simp [h1]
    show Q (.bl (decide (i ≤ hi))) H
    rw [e]
    exact q
  · rw [decide_eq_false h1]
    refine iteF ?_
    have e : false = decide (lo ≤ i ∧ i ≤ hi) := by simp [h1]
    rw [e]
    exact q
/-- of a pair that is a tie -/
def sp_is_tie (K : PySem.W.Frag) : Sp := fun vs H Q _ => ∃ (n : Int) (x : V) (t : Int × Int), vs = [.int n, x] ∧ Pr H x t ∧ 0 ≤ t.1 ∧ t.1 < t.2 ∧ t.2 < n ∧ Q (.bl true) H
def t_is_tie (K : PySem.W.Frag) : TS := (tSeq (tIfS (tOr (tNot (tB (tCB (rIsi K) (tCons (tVar 1) (tCons (tC (.ty "tuple")) tNil))))) (tTest (tOp rNe (tCB (rLenSq K) (tCons (tVar 1) tNil)) (tC (.int 2))))) (tRet (tC (.bl false))) tNext)
    (tSeq (tIfS (tOr (tNot (tB (tCall (sp_is_within K) [] E0 (tCons (tOp (rIxT K) (tVar 1) (tC (.int 0))) (tCons (tC (.int 0)) (tCons (tOp rSub (tVar 0) (tC (.int 1))) tNil)))))) (tNot (tB (tCall (sp_is_within K) [] E0 (tCons (tOp (rIxT K) (tVar 1) (tC (.int 1))) (tCons (tC (.int 0)) (tCons (tOp rSub (tVar 0) (tC (.int 1))) tNil))))))) (tRet (tC (.bl false))) tNext)
    (tRet (tOp rLt (tOp (rIxT K) (tVar 1) (tC (.int 0))) (tOp (rIxT K) (tVar 1) (tC (.int 1)))))))
theorem pure_is_tie {K : PySem.W.Frag} {vs : List V} {H : Hp} {Q : VK} {E : XK} (h : sp_is_tie K vs H Q E) : t_is_tie K (Fin Q) (start ["many", "thing"] vs) H := by
  obtain ⟨n, x, ⟨a, b⟩, rfl, ⟨p, rfl, hp⟩, h0, h1, h2, q⟩ := h
  refine ⟨_, rfl, _, _, _, _, _, rfl, .ty "tuple", ty_tup hp, k_tt, _, rfl, iteF ⟨_, rfl, _, _, rfl, .inr (sqt hp), rfl, _, rfl, iteF ?_⟩⟩
  have w1 : decide (0 ≤ a ∧ a ≤ n - 1) = true := decide_eq_true (by simp only at h0 h1 h2; omega)
  have w2 : decide (0 ≤ b ∧ b ≤ n - 1) = true := decide_eq_true (by simp only at h0 h1 h2; omega)
  refine ⟨_, rfl, _, _, _, _, rfl, rfl, sqt hp, atI_nat (j := 0) rfl, _, rfl, _, _, rfl, rfl, a, 0, n - 1, rfl, _, rfl, ?_⟩
  rw [w1]
  refine iteF ⟨_, rfl, _, _, _, _, rfl, rfl, sqt hp, atI_nat (j := 1) rfl, _, rfl, _, _, rfl, rfl, b, 0, n - 1, rfl, _, rfl, ?_⟩
  rw [w2]
  refine iteF ⟨_, rfl, _, _, _, _, rfl, rfl, sqt hp, atI_nat (j := 0) rfl, _, rfl, _, _, _, _, rfl, rfl, sqt hp, atI_nat (j := 1) rfl, a, b, rfl, rfl, ?_⟩
  show Q (.bl (decide (a < b))) H
  rw [decide_eq_true (show a < b from h1)]
  exact q
/-! look_at_web -/
def sp_look_at_web (K : PySem.W.Frag) : Sp := fun vs H Q _ => ∃ (v : V) (n : Int) (ts : List (Int × Int)), vs = [v] ∧ IsW H v n ts ∧ WebOk n ts ∧ ∀ H', Same H H' → Q .non H'
def t_look_at_web (K : PySem.W.Frag) : TS := (tSeq (tIfS (tOr (tNot (tB (tCB (rIsi K) (tCons (tVar 0) (tCons (tC (.ty "tuple")) tNil))))) (tTest (tOp rNe (tCB (rLenSq K) (tCons (tVar 0) tNil)) (tC (.int 2))))) tNever tNext)
    (tSeq (tAsg (tVar 0) (gTup K 2 (gCons (gName 1) (gCons (gName 2) gNil))))
    (tSeq (tIfS (tNot (tB (tCall (sp_is_within K) [] E0 (tCons (tVar 1) (tCons (tC (.int 1)) (tCons (tC (.int 40)) tNil)))))) tNever tNext)
    (tSeq (tIfS (tOr (tNot (tB (tCB (rIsi K) (tCons (tVar 2) (tCons (tC (.ty "list")) tNil))))) (tTest (tOp rGt (tCB (rLenSq K) (tCons (tVar 2) tNil)) (tC (.int 120))))) tNever tNext)
    (tSeq (tAsg (tTupG (tCons (tUn rNeg (tC (.int 1))) (tCons (tUn rNeg (tC (.int 1))) tNil))) (gName 3))
    (tFor (iEnum K (tCons (tVar 2) tNil)) (gTup K 2 (gCons (gName 4) (gCons (gName 5) gNil))) (tSeq (tIfS (tOr (tNot (tB (tCall (sp_is_tie K) [] E0 (tCons (tVar 1) (tCons (tVar 5) tNil))))) (tTest (tOp (rLeT K) (tVar 5) (tVar 3)))) tNever tNext)
    (tAsg (tVar 5) (gName 3)))))))))
theorem lex_le {a b c d : Int} (h : c < a ∨ (c = a ∧ d < b)) :
    Ob.lexAt (fun j => decide (([a, b] : List Int).getD j 0 = ([c, d] : List Int).getD j 0)) (fun j => decide (([a, b] : List Int).getD j 0 ≤ ([c, d] : List Int).getD j 0)) (decide (([a, b] : List Int).length ≤ ([c, d] : List Int).length)) 0 (min ([a, b] : List Int).length ([c, d] : List Int).length) = false := by
  show (if decide (a = c) = true then (if decide (b = d) = true then decide ((2 : Nat) ≤ 2) else decide (b ≤ d)) else decide (a ≤ c)) = false
  rcases h with h | ⟨rfl, h⟩
  · rw [if_neg (by simp; omega), decide_eq_false (by omega)]
  · rw [if_pos (by simp), if_neg (by simp; omega), decide_eq_false (by omega)]
/-- the tie ahead of the i-th: (-1, -1) ahead of all -/
def ahd (ts : List (Int × Int)) : Nat → Int × Int
  | 0 => (-1, -1)
  | i + 1 => ts.getD i (-1, -1)
theorem ahd_lt {n : Int} {ts : List (Int × Int)} (W : WebOk n ts) : ∀ {i : Nat} {t : Int × Int}, ts[i]? = some t → ltT (ahd ts i) t
  | 0, t, h => by
    have g := W.good t (List.mem_of_getElem? h)
    exact .inl (by show (-1 : Int) < t.1; omega)
  | i + 1, t, h => by
    obtain ⟨hi, e⟩ := List.getElem?_eq_some_iff.mp h
    have e1 : ahd ts (i + 1) = ts[i]'(by omega) := by
      show ts.getD i (-1, -1) = _
      rw [List.getD_eq_getElem?_getD, List.getElem?_eq_getElem (by omega)]
      rfl
    rw [e1, ← e]
    exact List.pairwise_iff_getElem.mp W.ord i (i + 1) (by omega) hi (by omega)
theorem pure_look_at_web {K : PySem.W.Frag} {vs : List V} {H : Hp} {Q : VK} {E : XK} (h : sp_look_at_web K vs H Q E) : t_look_at_web K (Fin Q) (start ["thing", "many", "ties", "ahead", "number", "tie"] vs) H := by
  obtain ⟨v, n, ts, rfl, ⟨p, a, rfl, hp, xs, ha, hx⟩, W, q⟩ := h
  have hl : xs.length = ts.length := Paired.length hx
  refine ⟨_, rfl, _, _, _, _, _, rfl, .ty "tuple", ty_tup hp, k_tt, _, rfl, iteF ⟨_, rfl, _, _, rfl, .inr (sqt hp), rfl, _, rfl, iteF ?_⟩⟩
  refine ⟨_, rfl, _, _, rfl, sqt hp, rfl, _, _, rfl, _, _, rfl, rfl, ?_⟩
  refine ⟨_, rfl, n, 1, 40, rfl, _, rfl, ?_⟩
  rw [decide_eq_true (show 1 ≤ n ∧ n ≤ 40 from ⟨W.lo, W.hi⟩)]
  refine iteF ⟨_, rfl, _, _, _, _, _, rfl, .ty "list", ty_lst ha, k_ll, _, rfl, iteF ⟨_, rfl, _, _, rfl, .inl (sql ha), _, _, rfl, rfl, _, rfl, ?_⟩⟩
  rw [decide_eq_false (show ¬ (120 : Int) < (xs.length : Int) by have := W.few; omega)]
  refine iteF ⟨_, rfl, _, rfl, by show 2 ≤ sizeLine; decide, fun z H1 nz s1 hz => ?_⟩
  have ha1 : H1 a = some (.lst xs) := s1 _ _ ha
  refine ⟨_, rfl, a, xs, rfl, sql ha1, for_it (n := xs.length) walk_enum (fun i σ H2 => ∃ (y : Addr) (v4 v5 : Option V), σ = [some (.ref p), some (.int n), some (.ref a), some (.ref y), v4, v5] ∧ Same H1 H2 ∧ H2 y = some (.tup [.int (ahd ts i).1, .int (ahd ts i).2]))
    ⟨z, none, none, rfl, Same.refl _, hz⟩ (fun i σ H2 _ ⟨_, _, _, _, s2, _⟩ => sql (s2 _ _ ha1)) ?_ ?_⟩
  · rintro i x σ H2 H3 hi ⟨y, v4, v5, rfl, s2, hy⟩ ⟨T, x1, x2, rfl, nT, rfl, e1, e2⟩
    have s3 : Same H2 (upd H2 T (.tup [x1, x2])) := same_new nT
    obtain ⟨t, ht, b, rfl, hb⟩ := paired_get hx e2
    have hb3 := s3 _ _ (s2 _ _ (s1 _ _ hb))
    have hy3 := s3 _ _ hy
    have g := W.good t (List.mem_of_getElem? ht)
    refine ⟨T, _, rfl, sqt upd_same, rfl, _, _, rfl, _, _, rfl, rfl, ?_⟩
    refine ⟨_, rfl, _, rfl, n, _, t, rfl, ⟨b, rfl, hb3⟩, g.1, g.2.1, g.2.2, _, rfl, iteF ⟨_, rfl, _, rfl, b, y, [t.1, t.2], [(ahd ts i).1, (ahd ts i).2], rfl, rfl, sqt hb3, sqt hy3, _, rfl, ?_⟩⟩
    rw [lex_le (ahd_lt W ht)]
    refine iteF ⟨_, rfl, b, _, _, rfl, s2.trans s3, ?_⟩
    have e : ahd ts (i + 1) = t := by
      show ts.getD i (-1, -1) = t
      rw [List.getD_eq_getElem?_getD, ht]
      rfl
    rw [e]
    exact hb3
  · rintro σ H2 ⟨y, v4, v5, rfl, s2, hy⟩
    exact q H2 (s1.trans s2)
/-! places -/
def sp_is_place (K : PySem.W.Frag) : Sp := fun vs H Q _ => ∃ (v : V) (n : Int) (ts : List (Int × Int)) (i : Int), vs = [v, .int i] ∧ IsW H v n ts ∧ Q (.bl (decide (0 ≤ i ∧ i ≤ n - 1))) H
def t_is_place (K : PySem.W.Frag) : TS := (tRet (tCall (sp_is_within K) [] E0 (tCons (tVar 1) (tCons (tC (.int 0)) (tCons (tOp rSub (tOp (rIxT K) (tVar 0) (tC (.int 0))) (tC (.int 1))) tNil)))))
theorem pure_is_place {K : PySem.W.Frag} {vs : List V} {H : Hp} {Q : VK} {E : XK} (h : sp_is_place K vs H Q E) : t_is_place K (Fin Q) (start ["web", "thing"] vs) H := by
  obtain ⟨v, n, ts, i, rfl, ⟨p, a, rfl, hp, _⟩, q⟩ := h
  exact ⟨_, rfl, _, rfl, _, _, _, _, rfl, rfl, sqt hp, atI_nat (j := 0) rfl, _, _, rfl, rfl, i, 0, n - 1, rfl, q⟩
def sp_look_at_place (K : PySem.W.Frag) : Sp := fun vs H Q _ => ∃ (v : V) (n : Int) (ts : List (Int × Int)) (i : Int), vs = [v, .int i] ∧ IsW H v n ts ∧ 0 ≤ i ∧ i < n ∧ Q .non H
def t_look_at_place (K : PySem.W.Frag) : TS := (tIfS (tNot (tB (tCall (sp_is_place K) [] E0 (tCons (tVar 0) (tCons (tVar 1) tNil))))) tNever tNext)
theorem pure_look_at_place {K : PySem.W.Frag} {vs : List V} {H : Hp} {Q : VK} {E : XK} (h : sp_look_at_place K vs H Q E) : t_look_at_place K (Fin Q) (start ["web", "place"] vs) H := by
  obtain ⟨v, n, ts, i, rfl, hw, h0, h1, q⟩ := h
  refine ⟨_, rfl, _, rfl, v, n, ts, i, rfl, hw, _, rfl, ?_⟩
  rw [decide_eq_true (show 0 ≤ i ∧ i ≤ n - 1 by omega)]
  exact iteF q
/-- the tie between two places -/
def tieOf (a b : Int) : Int × Int := (if b < a then b else a, if b > a then b else a)
def sp_tie_of (K : PySem.W.Frag) : Sp := fun vs H Q _ => ∃ a b : Int, vs = [.int a, .int b] ∧ Nw H (.tup [.int (tieOf a b).1, .int (tieOf a b).2]) Q
def t_tie_of (K : PySem.W.Frag) : TS := (tRet (tTupG (tCons (tCB rMin2 (tCons (tVar 0) (tCons (tVar 1) tNil))) (tCons (tCB rMax2 (tCons (tVar 0) (tCons (tVar 1) tNil))) tNil))))
theorem pure_tie_of {K : PySem.W.Frag} {vs : List V} {H : Hp} {Q : VK} {E : XK} (h : sp_tie_of K vs H Q E) : t_tie_of K (Fin Q) (start ["one", "other"] vs) H := by
  obtain ⟨a, b, rfl, q⟩ := h
  exact ⟨_, rfl, _, rfl, a, b, rfl, _, rfl, _, rfl, a, b, rfl, by show 2 ≤ sizeLine; decide, q⟩
/-! beside_all -/
def adj1 (t : Int × Int) (k : Int) : List Int := (if t.1 = k then [t.2] else []) ++ (if t.2 = k then [t.1] else [])
def adj (ts : List (Int × Int)) (k : Int) : List Int := ts.flatMap fun t => adj1 t k
/-- the neighbours of a place, rising -/
def nbs (ts : List (Int × Int)) (k : Int) : List Int := (adj ts k).mergeSort (fun a b => decide (a ≤ b))
/-- the lists of neighbours stand at bs -/
structure Bes (H : Hp) (bs : List Addr) (n : Int) (ts : List (Int × Int)) : Prop where
  len : bs.length = n.toNat
  at_ : ∀ (i : Nat) b, bs[i]? = some b → H b = some (.lst ((nbs ts i).map V.int))
theorem Bes.mono {H H' : Hp} {bs : List Addr} {n : Int} {ts : List (Int × Int)} (e : Same H H') (h : Bes H bs n ts) : Bes H' bs n ts := ⟨h.len, fun i b q => e _ _ (h.at_ i b q)⟩
def sp_beside_all (K : PySem.W.Frag) : Sp := fun vs H Q _ => ∃ (v : V) (n : Int) (ts : List (Int × Int)), vs = [v] ∧ IsW H v n ts ∧ WebOk n ts ∧
  ∀ (p : Addr) (bs : List Addr) (H' : Hp), Same H H' → H p = none → H' p = some (.lst (bs.map V.ref)) → Bes H' bs n ts → bs.Nodup → (∀ b ∈ bs, H b = none ∧ b ≠ p) → Q (.ref p) H'
def t_beside_all (K : PySem.W.Frag) : TS := (tSeq (tAsg (tLc (iRng1 (tCons (tOp (rIxT K) (tVar 0) (tC (.int 0))) tNil)) (gName 4) tYes (tLstG tNil) [4]) (gName 1))
    (tSeq (tFor (iList K (tOp (rIxT K) (tVar 0) (tC (.int 1)))) (gTup K 2 (gCons (gName 2) (gCons (gName 3) gNil))) (tSeq (tDrop (tBM K "list" rAppend (tOp (rIxL K) (tVar 1) (tVar 2)) (tCons (tVar 3) tNil)))
    (tDrop (tBM K "list" rAppend (tOp (rIxL K) (tVar 1) (tVar 3)) (tCons (tVar 2) tNil)))))
    (tRet (tLc (iList K (tVar 1)) (gName 5) tYes (tCB (rSrtIG K) (tCons (tVar 5) tNil)) [5]))))
theorem adj_take {ts : List (Int × Int)} {i : Nat} {t : Int × Int} (h : ts[i]? = some t) (k : Int) : adj (ts.take (i + 1)) k = adj (ts.take i) k ++ adj1 t k := by
  unfold adj
  rw [List.take_add_one, h, List.flatMap_append]
  congr 1
  simp
theorem adj1_len (t : Int × Int) (k : Int) : (adj1 t k).length ≤ 2 := by
  unfold adj1
  split <;> split <;> simp
theorem adj_len (ts : List (Int × Int)) (k : Int) : (adj ts k).length ≤ 2 * ts.length := by
  induction ts with
  | nil => simp [adj]
  | cons t ts ih =>
    have h1 := adj1_len t k
    have e : adj (t :: ts) k = adj1 t k ++ adj ts k := by simp [adj]
    rw [e, List.length_append, List.length_cons]
    omega
theorem tyl {K : PySem.W.Frag} {H : Hp} {a : Addr} {xs : List V} (h : H a = some (.lst xs)) : tyV K "list" (.ref a) H := .inl ⟨rfl, _, sql h⟩
theorem map_ref_get {bs : List Addr} {i : Nat} {b : Addr} (h : bs[i]? = some b) : (bs.map V.ref)[i]? = some (.ref b) := by
  rw [List.getElem?_map, h]
  rfl
theorem getn {α : Type} {l : List α} {i : Nat} (h : i < l.length) : ∃ b, l[i]? = some b := ⟨_, List.getElem?_eq_getElem h⟩
theorem pure_beside_all {K : PySem.W.Frag} {vs : List V} {H : Hp} {Q : VK} {E : XK} (h : sp_beside_all K vs H Q E) : t_beside_all K (Fin Q) (start ["web", "found", "one", "other", "place", "places"] vs) H := by
  obtain ⟨v, n, ts, rfl, ⟨p, a, rfl, hp, xs, ha, hx⟩, W, q⟩ := h
  have hn0 := W.lo
  have hn1 := W.hi
  have hfew := W.few
  have hsz : sizeLine = 16777216 := sizeLine_eq
  refine ⟨_, rfl, _, _, _, _, rfl, rfl, sqt hp, atI_nat (j := 0) rfl, n, rfl, by omega, by omega, fun D nD => ?_⟩
  refine lc_objs walk_range nD (fun _ => .lst []) (by omega) (fun _ _ => trivial) (fun i x H1 H2 Nx Ny hi s1 y hN => ?_) (fun H1 bs s1 hD hl nd hb => ?_)
  · obtain ⟨rfl, rfl⟩ := y
    exact ⟨rfl, Nat.zero_le _, fun b H3 nb s3 h3 => hN b H3 nb s3 h3⟩
  refine ⟨_, rfl, _, _, _, _, rfl, rfl, sqt (s1 _ _ hp), atI_nat (j := 1) rfl, a, rfl, ⟨_, sql (s1 _ _ ha)⟩, ?_⟩
  refine for_list (K := K) (a := a) (xs := xs) (fun i σ H2 => ∃ v2 v3, σ = [some (.ref p), some (.ref D), v2, v3, none, none] ∧ Same H H2 ∧ H2 D = some (.lst (bs.map V.ref)) ∧
      ∀ (k : Nat) b, bs[k]? = some b → H2 b = some (.lst ((adj (ts.take i) k).map V.int)))
    ⟨none, none, rfl, s1, hD, fun k b e => (hb k b e).1⟩ (fun i σ H2 _ ⟨_, _, _, s2, _⟩ => sql (s2 _ _ ha)) ?_ ?_
  · rintro i x σ H2 hi ⟨v2, v3, rfl, s2, hD2, hb2⟩
    obtain ⟨t, ht, c, rfl, hc⟩ := paired_get hx hi
    have g := W.good t (List.mem_of_getElem? ht)
    have hc2 := s2 _ _ hc
    refine ⟨c, _, rfl, sqt hc2, rfl, _, _, rfl, _, _, rfl, rfl, ?_⟩
    have k1 : t.1.toNat < bs.length := by omega
    have k2 : t.2.toNat < bs.length := by omega
    obtain ⟨b1, e1⟩ := getn k1
    obtain ⟨b2, e2⟩ := getn k2
    have ne12 : b2 ≠ b1 := fun e => by
      rw [e] at e2
      have := nd_ix nd e1 e2
      omega
    have hB1 := hb2 _ _ e1
    have hB2 := hb2 _ _ e2
    have c1 : ((t.1.toNat : Nat) : Int) = t.1 := by omega
    have c2 : ((t.2.toNat : Nat) : Int) = t.2 := by omega
    rw [c1] at hB1
    rw [c2] at hB2
    have at1 : atI (bs.map V.ref) t.1 = some (.ref b1) := at_of c1.symm (map_ref_get e1)
    have at2 : atI (bs.map V.ref) t.2 = some (.ref b2) := at_of c2.symm (map_ref_get e2)
    have hlt : ∀ k, (adj (ts.take i) k).length < sizeLine := fun k => by
      have h1 := adj_len (ts.take i) k
      rw [List.length_take] at h1
      omega
    refine ⟨_, rfl, _, rfl, _, _, _, _, rfl, rfl, sql hD2, at1, tyl hB1, _, rfl, b1, _, _, rfl, rfl, hB1, by rw [List.length_map]; exact hlt _, ?_⟩
    have nD1 : D ≠ b1 := (hb _ _ e1).2.2.symm
    have nD2 : D ≠ b2 := (hb _ _ e2).2.2.symm
    have s3 : Same H (upd H2 b1 (.lst ((adj (ts.take i) t.1).map V.int ++ [V.int t.2]))) := same_mut s2 (hb _ _ e1).2.1
    have hD3 : (upd H2 b1 (.lst ((adj (ts.take i) t.1).map V.int ++ [V.int t.2]))) D = some (.lst (bs.map V.ref)) := by rw [upd_ne nD1]; exact hD2
    have hB3 : (upd H2 b1 (.lst ((adj (ts.take i) t.1).map V.int ++ [V.int t.2]))) b2 = some (.lst ((adj (ts.take i) t.2).map V.int)) := by rw [upd_ne ne12]; exact hB2
    refine ⟨_, rfl, _, rfl, _, _, _, _, rfl, rfl, sql hD3, at2, tyl hB3, _, rfl, b2, _, _, rfl, rfl, hB3, by rw [List.length_map]; exact hlt _, ?_⟩
    refine ⟨_, _, rfl, same_mut s3 (hb _ _ e2).2.1, by rw [upd_ne nD2]; exact hD3, fun k b e => ?_⟩
    rw [adj_take ht]
    by_cases q2 : b = b2
    · subst q2
      have ek := nd_ix nd e e2
      subst ek
      rw [upd_same, c2]
      have e5 : adj1 t t.2 = [t.1] := by
        unfold adj1
        rw [if_neg (by omega), if_pos rfl]
        rfl
      rw [e5, List.map_append]
      rfl
    · rw [upd_ne q2]
      by_cases q1 : b = b1
      · subst q1
        have ek := nd_ix nd e e1
        subst ek
        rw [upd_same, c1]
        have e5 : adj1 t t.1 = [t.2] := by
          unfold adj1
          rw [if_pos rfl, if_neg (by omega)]
          rfl
        rw [e5, List.map_append]
        rfl
      · rw [upd_ne q1, hb2 k b e]
        have e5 : adj1 t (k : Int) = [] := by
          unfold adj1
          rw [if_neg, if_neg]
          · rfl
          · intro z
            have e6 : t.2.toNat = k := by omega
            rw [e6, e] at e2
            exact q2 (Option.some.inj e2)
          · intro z
            have e6 : t.1.toNat = k := by omega
            rw [e6, e] at e1
            exact q1 (Option.some.inj e1)
        rw [e5, List.append_nil]
  · rintro σ H2 ⟨v2, v3, rfl, s2, hD2, hb2⟩
    have el : ts.take xs.length = ts := List.take_of_length_le (by rw [Paired.length hx]; exact Nat.le_refl _)
    rw [el] at hb2
    refine ⟨_, rfl, D, rfl, ⟨_, sql hD2⟩, fun D2 nD2 => ?_⟩
    refine lc_objs (walk_list (xs := bs.map V.ref)) nD2 (fun i => .lst ((nbs ts i).map V.int)) (by rw [List.length_map]; omega) (fun H3 s3 => sql (s3 _ _ hD2)) (fun i x H3 H4 Nx Ny hi s3 y hN => ?_) (fun H3 cs s3 hD3 hl3 nd3 hb3 => ?_)
    · obtain ⟨rfl, hy⟩ := y
      rw [List.getElem?_map] at hy
      cases e : bs[i]? with
      | none =>
        rw [e] at hy
        cases hy
      | some b =>
        rw [e] at hy
        have e2 : V.ref b = x := Option.some.inj hy
        subst e2
        refine ⟨rfl, _, rfl, b, _, rfl, sql (s3 _ _ (hb2 i b e)), fun c H5 nc s5 h5 => hN c H5 nc s5 h5⟩
    · rw [List.length_map] at hl3
      refine q D2 cs H3 (s2.trans s3) (s2.free nD2) hD3 ⟨by omega, fun i b e => (hb3 i b e).1⟩ nd3 fun b hm => ?_
      obtain ⟨j, hj, e⟩ := List.mem_iff_getElem.mp hm
      obtain ⟨_, g1, g2⟩ := hb3 j b (List.getElem?_eq_some_iff.mpr ⟨hj, e⟩)
      exact ⟨s2.free g1, g2⟩
/-! is_tied, neighbours -/
abbrev prD (t : Int × Int) : PyData := .tuple [.int t.1, .int t.2]
theorem Pr.dp {K : PySem.W.Frag} {H : Hp} {x : V} {t : Int × Int} (h : Pr H x t) : Dp K H x (prD t) := by
  obtain ⟨b, rfl, hb⟩ := h
  exact .tup (sqt hb) (.cons (.int _) (.cons (.int _) .nil))
theorem Prs.dp {K : PySem.W.Frag} {H : Hp} : ∀ {xs : List V} {ts : List (Int × Int)}, Paired (Pr H) xs ts → DpAll K H xs (ts.map prD)
  | _, _, .nil => .nil
  | _, _, .cons h t => .cons h.dp (Prs.dp t)
theorem IsP.dp {K : PySem.W.Frag} {H : Hp} {a : Addr} {ts : List (Int × Int)} (h : IsP H a ts) : Dp K H (.ref a) (.list (ts.map prD)) := by
  obtain ⟨xs, ha, hx⟩ := h
  exact .lst (sql ha) (Prs.dp hx)
theorem IsW.dp {K : PySem.W.Frag} {H : Hp} {v : V} {n : Int} {ts : List (Int × Int)} (h : IsW H v n ts) : Dp K H v (.tuple [.int n, .list (ts.map prD)]) := by
  obtain ⟨p, a, rfl, hp, hP⟩ := h
  exact .tup (sqt hp) (.cons (.int _) (.cons hP.dp .nil))
theorem canLay_prs : ∀ ts : List (Int × Int), PyData.canLayAll0 (ts.map prD) = true
  | [] => rfl
  | t :: ts => by
    show (PyData.canLay0 (prD t) && PyData.canLayAll0 (ts.map prD)) = true
    rw [canLay_prs ts]
    rfl
theorem depth_prs : ∀ ts : List (Int × Int), PyData.depthAll (ts.map prD) ≤ 1
  | [] => by simp [PyData.depthAll]
  | t :: ts => by
    have ih := depth_prs ts
    have e : PyData.depthAll ((t :: ts).map prD) = max (PyData.depth (prD t)) (PyData.depthAll (ts.map prD)) := rfl
    rw [e]
    have e2 : PyData.depth (prD t) = 1 := rfl
    omega
theorem shaped_pr (t : Int × Int) : SeqAt.shaped (prD t) = true := rfl
theorem shaped_prs (ts : List (Int × Int)) : SeqAt.shaped (.list (ts.map prD)) = true := by
  unfold SeqAt.shaped
  have h1 : PyData.canLay0 (.list (ts.map prD)) = true := canLay_prs ts
  have h2 : PyData.depth (.list (ts.map prD)) ≤ 64 := by
    have := depth_prs ts
    have e : PyData.depth (.list (ts.map prD)) = PyData.depthAll (ts.map prD) + 1 := rfl
    omega
  rw [h1, decide_eq_true h2]
  rfl
theorem eqv_pr (t u : Int × Int) : PyData.eqv (prD t) (prD u) = decide (t = u) := by
  show ((t.1 == u.1) && ((t.2 == u.2) && true)) = decide (t = u)
  rw [Bool.and_true]
  by_cases h : t = u
  · subst h
    simp
  · rw [decide_eq_false h]
    by_cases h1 : t.1 = u.1
    · have h2 : t.2 ≠ u.2 := fun e => h (Prod.ext h1 e)
      simp [h1, h2]
    · simp [h1]
theorem any_prs (ts : List (Int × Int)) (u : Int × Int) : ((ts.map prD).any fun z => PyData.eqv z (prD u)) = decide (u ∈ ts) := by
  rw [List.any_map]
  induction ts with
  | nil => simp
  | cons t ts ih =>
    rw [List.any_cons, ih]
    show (PyData.eqv (prD t) (prD u) || decide (u ∈ ts)) = _
    rw [eqv_pr]
    by_cases h : t = u
    · subst h
      simp
    · have h' : u ≠ t := fun e => h e.symm
      simp [h, h']
def sp_is_tied (K : PySem.W.Frag) : Sp := fun vs H Q _ => ∃ (v : V) (n : Int) (ts : List (Int × Int)) (i j : Int), vs = [v, .int i, .int j] ∧ IsW H v n ts ∧ WebOk n ts ∧ 0 ≤ i ∧ i < n ∧ 0 ≤ j ∧ j < n ∧
  ∀ H', Same H H' → Q (.bl (decide (tieOf i j ∈ ts))) H'
def t_is_tied (K : PySem.W.Frag) : TS := (tSeq (tDrop (tCall (sp_look_at_web K) [] E0 (tCons (tVar 0) tNil)))
    (tSeq (tDrop (tCall (sp_look_at_place K) [] E0 (tCons (tVar 0) (tCons (tVar 1) tNil))))
    (tSeq (tDrop (tCall (sp_look_at_place K) [] E0 (tCons (tVar 0) (tCons (tVar 2) tNil))))
    (tRet (tOp (rInD K) (tCall (sp_tie_of K) [] E0 (tCons (tVar 1) (tCons (tVar 2) tNil))) (tOp (rIxT K) (tVar 0) (tC (.int 1))))))))
theorem pure_is_tied {K : PySem.W.Frag} {vs : List V} {H : Hp} {Q : VK} {E : XK} (h : sp_is_tied K vs H Q E) : t_is_tied K (Fin Q) (start ["web", "one", "other"] vs) H := by
  obtain ⟨v, n, ts, i, j, rfl, hw, W, i0, i1, j0, j1, q⟩ := h
  refine ⟨_, rfl, v, n, ts, rfl, hw, W, fun H1 s1 => ?_⟩
  have hw1 := hw.mono s1
  refine ⟨_, rfl, _, rfl, v, n, ts, i, rfl, hw1, i0, i1, ?_⟩
  refine ⟨_, rfl, _, rfl, v, n, ts, j, rfl, hw1, j0, j1, ?_⟩
  refine ⟨_, rfl, _, rfl, i, j, rfl, fun b H2 nb s2 hb => ?_⟩
  have hw2 := hw1.mono s2
  obtain ⟨p, a, rfl, hp, hP⟩ := id hw2
  refine ⟨_, rfl, _, _, _, _, rfl, rfl, sqt hp, atI_nat (j := 1) rfl, prD (tieOf i j), ts.map prD, Pr.dp ⟨b, rfl, hb⟩, hP.dp, shaped_pr _, shaped_prs _, ?_⟩
  rw [any_prs]
  exact q H2 (s1.trans s2)
def sp_neighbours (K : PySem.W.Frag) : Sp := fun vs H Q _ => ∃ (v : V) (n : Int) (ts : List (Int × Int)) (i : Int), vs = [v, .int i] ∧ IsW H v n ts ∧ WebOk n ts ∧ 0 ≤ i ∧ i < n ∧
  ∀ p H', H p = none → Same H H' → H' p = some (.lst ((nbs ts i).map V.int)) → Q (.ref p) H'
def t_neighbours (K : PySem.W.Frag) : TS := (tSeq (tDrop (tCall (sp_look_at_web K) [] E0 (tCons (tVar 0) tNil)))
    (tSeq (tDrop (tCall (sp_look_at_place K) [] E0 (tCons (tVar 0) (tCons (tVar 1) tNil))))
    (tRet (tOp (rIxL K) (tCall (sp_beside_all K) [] E0 (tCons (tVar 0) tNil)) (tVar 1)))))
theorem pure_neighbours {K : PySem.W.Frag} {vs : List V} {H : Hp} {Q : VK} {E : XK} (h : sp_neighbours K vs H Q E) : t_neighbours K (Fin Q) (start ["web", "place"] vs) H := by
  obtain ⟨v, n, ts, i, rfl, hw, W, i0, i1, q⟩ := h
  refine ⟨_, rfl, v, n, ts, rfl, hw, W, fun H1 s1 => ?_⟩
  have hw1 := hw.mono s1
  refine ⟨_, rfl, _, rfl, v, n, ts, i, rfl, hw1, i0, i1, ?_⟩
  refine ⟨_, rfl, v, n, ts, rfl, hw1, W, fun p bs H2 s2 np hp B nd fr => ?_⟩
  have hl := B.len
  obtain ⟨b, hb⟩ := getn (l := bs) (i := i.toNat) (by omega)
  have c : ((i.toNat : Nat) : Int) = i := by omega
  refine ⟨_, rfl, _, _, _, _, rfl, rfl, sql hp, at_of c.symm (map_ref_get hb), ?_⟩
  refine q b H2 (s1.free (fr b (List.mem_of_getElem? hb)).1) (s1.trans s2) ?_
  rw [B.at_ _ _ hb, c]
end G39

/-! The laws' own makers of webs (cells by numbers). -/
namespace G39
open PySem PySem.Spec PyProof.Rows L2
/-- digits below sizes -/
abbrev Digs (ss ds : List Int) : Prop := Paired (fun s d => 0 ≤ d ∧ d < s) ss ds
abbrev SzOk (ss : List Int) : Prop := ∀ s ∈ ss, 1 ≤ s ∧ s < 1073741824
def sp_law_cell_at (K : PySem.W.Frag) : Sp := fun vs H Q _ => ∃ (a : Addr) (ns : List Int) (k : Int), vs = [.ref a, .int k] ∧ SqL K H a (ns.map V.int) ∧ 0 ≤ k ∧ ∀ c : Int, Q (.int c) H
def t_law_cell_at (K : PySem.W.Frag) : TS := (tSeq (tIfS (tTest (tOp rLt (tVar 1) (tCB (rLenSq K) (tCons (tVar 0) tNil)))) (tRet (tOp (rIxL K) (tVar 0) (tVar 1))) tNext)
    (tRet (tC (.int 0))))
theorem map_int_get {ns : List Int} {i : Nat} {b : Int} (h : ns[i]? = some b) : (ns.map V.int)[i]? = some (.int b) := by
  rw [List.getElem?_map, h]
  rfl
theorem ints_at {ns : List Int} {i : Int} (h0 : 0 ≤ i) (h1 : i < ns.length) : ∃ b, ns[i.toNat]? = some b ∧ atI (ns.map V.int) i = some (.int b) := by
  obtain ⟨b, hb⟩ := getn (l := ns) (i := i.toNat) (by omega)
  exact ⟨b, hb, at_of (j := i.toNat) (by omega) (map_int_get hb)⟩
theorem pure_law_cell_at {K : PySem.W.Frag} {vs : List V} {H : Hp} {Q : VK} {E : XK} (h : sp_law_cell_at K vs H Q E) : t_law_cell_at K (Fin Q) (start ["_law_script", "_law_k"] vs) H := by
  obtain ⟨a, ns, k, rfl, ha, k0, q⟩ := h
  refine ⟨_, rfl, _, rfl, _, _, rfl, .inl ha, _, _, rfl, rfl, _, rfl, ?_⟩
  refine ite2 (fun c => ?_) (fun _ => q 0)
  have c := of_decide_eq_true c
  rw [List.length_map] at c
  obtain ⟨b, hb, hb2⟩ := ints_at k0 c
  exact ⟨_, rfl, _, rfl, _, _, _, _, rfl, rfl, ha, hb2, q b⟩
def sp_law_numbers (K : PySem.W.Frag) : Sp := fun vs H Q _ => ∃ (c s : Int) (a : Addr) (ss : List Int), vs = [.int c, .int s, .ref a] ∧ H a = some (.lst (ss.map V.int)) ∧ SzOk ss ∧ ss.length ≤ 10000 ∧
  ∀ ds p H', Digs ss ds → H p = none → Same H H' → H' p = some (.lst (ds.map V.int)) → Q (.ref p) H'
def t_law_numbers (K : PySem.W.Frag) : TS := (tSeq (tAsg (tCB rMax2 (tCons (tVar 0) (tCons (tOp rSub (tUn rNeg (tC (.int 1))) (tVar 0)) tNil))) (gName 3))
    (tSeq (tAsg (tVar 3) (gName 4))
    (tSeq (tAsg (tLstG tNil) (gName 5))
    (tSeq (tFor (iRng1 (tCons (tCB (rLenSq K) (tCons (tVar 2) tNil)) tNil)) (gName 6) (tIfS (tAnd (tTest (tOp rGe (tVar 3) (tOp rPow (tC (.int 10)) (tC (.int 18))))) (tTest (tOp rGt (tVar 4) (tC (.int 0))))) (tSeq (tDrop (tBM K "list" rAppend (tVar 5) (tCons (tOp rMod (tVar 4) (tOp (rIxL K) (tVar 2) (tVar 6))) tNil)))
    (tAsg (tOp rDiv (tVar 4) (tOp (rIxL K) (tVar 2) (tVar 6))) (gName 4))) (tSeq (tAsg (tOp rMod (tOp rAdd (tOp rAdd (tOp rAdd (tVar 3) (tOp rMul (tC (.int 7919)) (tVar 1))) (tOp rMul (tOp rMul (tC (.int 101)) (tVar 6)) (tVar 6))) (tVar 6)) (tC (.int 2147483647))) (gName 7))
    (tSeq (tAsg (tOp rMod (tOp rMul (tVar 7) (tC (.int 48271))) (tC (.int 2147483647))) (gName 7))
    (tSeq (tAsg (tOp rMod (tOp rMul (tOp rMod (tOp rMul (tVar 7) (tVar 7)) (tC (.int 2147483629))) (tC (.int 48271))) (tC (.int 2147483647))) (gName 7))
    (tDrop (tBM K "list" rAppend (tVar 5) (tCons (tOp rMod (tOp rDiv (tVar 7) (tC (.int 16))) (tOp (rIxL K) (tVar 2) (tVar 6))) tNil))))))))
    (tRet (tVar 5))))))
theorem Paired.snoc {α β : Type} {F : α → β → Prop} : ∀ {xs : List α} {ys : List β} {x : α} {y : β}, Paired F xs ys → F x y → Paired F (xs ++ [x]) (ys ++ [y])
  | _, _, _, _, .nil, h => .cons h .nil
  | _, _, _, _, .cons a t, h => .cons a (Paired.snoc t h)
theorem digs_take {ss ds : List Int} {i : Nat} {s d : Int} (h : Digs (ss.take i) ds) (hs : ss[i]? = some s) (h0 : 0 ≤ d) (h1 : d < s) : Digs (ss.take (i + 1)) (ds ++ [d]) := by
  rw [List.take_add_one, hs]
  exact Paired.snoc h ⟨h0, h1⟩
theorem app_int {H : Hp} {f : Addr} {ds : List Int} {d : Int} : upd H f (.lst (ds.map V.int ++ [V.int d])) f = some (.lst ((ds ++ [d]).map V.int)) := by
  rw [upd_same, List.map_append]
  rfl
theorem m31 : (0 : Int) < 2147483647 := by decide
theorem m29 : (0 : Int) < 2147483629 := by decide
theorem pure_law_numbers {K : PySem.W.Frag} {vs : List V} {H : Hp} {Q : VK} {E : XK} (h : sp_law_numbers K vs H Q E) : t_law_numbers K (Fin Q) (start ["_law_cell", "_law_salt", "_law_sizes", "_law_number", "_law_left", "_law_found", "_law_k", "_law_one"] vs) H := by
  obtain ⟨c, s, a, ss, rfl, ha, sz, hl, q⟩ := h
  have hsz : sizeLine = 16777216 := sizeLine_eq
  refine ⟨_, rfl, _, rfl, _, rfl, _, _, rfl, rfl, _, _, rfl, ?_⟩
  refine ⟨_, rfl, ?_⟩
  refine ⟨Nat.zero_le _, fun f H1 nf s1 hf => ?_⟩
  have ha1 := s1 _ _ ha
  generalize (if (-1 - c) > c then (-1 - c) else c) = num
  refine ⟨_, rfl, _, _, rfl, .inl (sql ha1), _, rfl, by rw [List.length_map]; omega, by rw [List.length_map]; omega, ?_⟩
  refine for_range (lo := 0) (n := ((ss.map V.int).length : Int).toNat) (fun i σ H2 => ∃ (left : Int) (ds : List Int) (v6 v7 : Option V), σ = [some (.int c), some (.int s), some (.ref a), some (.int num), some (.int left), some (.ref f), v6, v7] ∧ Same H H2 ∧ H2 f = some (.lst (ds.map V.int)) ∧ Digs (ss.take i) ds)
    ⟨num, [], none, none, rfl, s1, hf, .nil⟩ ?_ ?_
  · rintro i σ H2 hi ⟨left, ds, v6, v7, rfl, s2, hf2, D⟩
    have hi' : i < ss.length := by rw [List.length_map] at hi; omega
    obtain ⟨z, hz⟩ := getn hi'
    have hzz := sz z (List.mem_of_getElem? hz)
    have ha2 := s2 _ _ ha
    have hat : atI (ss.map V.int) (0 + (i : Int)) = some (.int z) := at_of (j := i) (by omega) (map_int_get hz)
    have hdl : ds.length < sizeLine := by
      have := Paired.length D
      rw [List.length_take] at this
      omega
    refine ⟨_, rfl, _, _, rfl, rfl, ⟨by decide, by decide, by decide⟩, _, _, rfl, rfl, _, rfl, ?_⟩
    have els : tSeq (tAsg (tOp rMod (tOp rAdd (tOp rAdd (tOp rAdd (tVar 3) (tOp rMul (tC (.int 7919)) (tVar 1))) (tOp rMul (tOp rMul (tC (.int 101)) (tVar 6)) (tVar 6))) (tVar 6)) (tC (.int 2147483647))) (gName 7))
        (tSeq (tAsg (tOp rMod (tOp rMul (tVar 7) (tC (.int 48271))) (tC (.int 2147483647))) (gName 7))
        (tSeq (tAsg (tOp rMod (tOp rMul (tOp rMod (tOp rMul (tVar 7) (tVar 7)) (tC (.int 2147483629))) (tC (.int 48271))) (tC (.int 2147483647))) (gName 7))
        (tDrop (tBM K "list" rAppend (tVar 5) (tCons (tOp rMod (tOp rDiv (tVar 7) (tC (.int 16))) (tOp (rIxL K) (tVar 2) (tVar 6))) tNil)))))
        { nx := fun σ H2 => ∃ (left : Int) (ds : List Int) (v6 v7 : Option V), σ = [some (.int c), some (.int s), some (.ref a), some (.int num), some (.int left), some (.ref f), v6, v7] ∧ Same H H2 ∧ H2 f = some (.lst (ds.map V.int)) ∧ Digs (ss.take (i + 1)) ds,
          rt := Q }
        [some (.int c), some (.int s), some (.ref a), some (.int num), some (.int left), some (.ref f), some (.int (0 + (i : Int))), v7] H2 := by
      refine ⟨_, rfl, _, rfl, _, _, rfl, rfl, .inl ⟨by decide, by decide⟩, _, _, rfl, rfl, _, rfl, _, _, rfl, rfl, .inl ⟨by decide, by decide⟩, _, rfl, _, _, rfl, rfl, .inr ⟨by omega, by omega⟩, _, _, rfl, rfl, _, rfl, _, _, rfl, rfl, _, _, rfl, rfl, m31, ?_⟩
      refine ⟨_, rfl, _, _, rfl, rfl, .inr ⟨by decide, by decide⟩, _, _, rfl, rfl, m31, ?_⟩
      refine ⟨_, rfl, _, rfl, _, _, rfl, rfl, .inl ⟨by omega, by omega⟩, _, _, rfl, rfl, m29, _, _, rfl, rfl, .inr ⟨by decide, by decide⟩, _, _, rfl, rfl, m31, ?_⟩
      refine ⟨_, rfl, tyl hf2, _, rfl, _, _, rfl, rfl, ⟨by decide, by decide⟩, _, rfl, _, rfl, _, _, _, _, rfl, rfl, sql ha2, hat, _, _, rfl, rfl, by show 0 < z; omega, f, _, _, rfl, rfl, hf2, by rw [List.length_map]; exact hdl, ?_⟩
      refine ⟨left, ds ++ [_], _, _, rfl, same_mut s2 nf, app_int, digs_take D hz (Int.emod_nonneg _ (by omega)) (Int.emod_lt_of_pos _ (by omega))⟩
    refine ite2 (fun _ => ?_) (fun _ => els)
    refine ⟨_, rfl, _, _, rfl, rfl, _, rfl, ite2 (fun _ => ?_) (fun _ => els)⟩
    refine ⟨_, rfl, tyl hf2, _, rfl, _, rfl, _, rfl, _, _, _, _, rfl, rfl, sql ha2, hat, _, _, rfl, rfl, by show 0 < z; omega, f, _, _, rfl, rfl, hf2, by rw [List.length_map]; exact hdl, ?_⟩
    have ha3 : ∀ o, (upd H2 f o) a = some (.lst (ss.map V.int)) := fun o => by rw [upd_ne (ne_of_none ha nf)]; exact ha2
    refine ⟨_, rfl, _, rfl, _, rfl, _, _, _, _, rfl, rfl, sql (ha3 _), hat, _, _, rfl, rfl, ⟨by show 0 < z; omega, by show z < 1073741824; omega⟩, ?_⟩
    refine ⟨_, ds ++ [_], _, _, rfl, same_mut s2 nf, app_int, digs_take D hz (Int.emod_nonneg _ (by omega)) (Int.emod_lt_of_pos _ (by omega))⟩
  · rintro σ H2 ⟨left, ds, v6, v7, rfl, s2, hf2, D⟩
    rw [show ss.take ((ss.map V.int).length : Int).toNat = ss by rw [List.length_map, Int.toNat_natCast]; exact List.take_of_length_le (Nat.le_refl _)] at D
    exact ⟨_, rfl, q ds f H2 D nf s2 hf2⟩
/-! ### _law_web -/
/-- a way of so many steps -/
inductive Wk (R : Int → Int → Prop) : Nat → Int → Int → Prop
  | nil (x : Int) : Wk R 0 x x
  | snoc {k : Nat} {x y z : Int} : Wk R k x y → R y z → Wk R (k + 1) x z
theorem Wk.trans {R : Int → Int → Prop} {k : Nat} {x y : Int} (h : Wk R k x y) : ∀ {j : Nat} {z : Int}, Wk R j y z → Wk R (k + j) x z
  | _, _, .nil _ => h
  | _, _, .snoc a b => .snoc (Wk.trans h a) b
theorem Wk.rev {R : Int → Int → Prop} (sym : ∀ x y, R x y → R y x) : ∀ {k : Nat} {x y : Int}, Wk R k x y → Wk R k y x
  | _, _, _, .nil x => .nil x
  | _, _, _, .snoc (k := k) a b => by
    have h1 : Wk R 1 _ _ := Wk.snoc (Wk.nil _) (sym _ _ b)
    have h2 := h1.trans (a.rev sym)
    rw [Nat.add_comm] at h2
    exact h2
/-- tied by the ties -/
def Tie (ts : List (Int × Int)) (x y : Int) : Prop := tieOf x y ∈ ts
/-- a web that hangs together -/
def Conn (n : Int) (ts : List (Int × Int)) : Prop := ∀ x, 0 ≤ x → x < n → ∀ y, 0 ≤ y → y < n → ∃ k, Wk (Tie ts) k x y
theorem tieOf_comm (a b : Int) : tieOf a b = tieOf b a := by
  unfold tieOf
  refine Prod.ext ?_ ?_
  · show (if b < a then b else a) = (if a < b then a else b)
    split <;> split <;> omega
  · show (if b > a then b else a) = (if a > b then a else b)
    split <;> split <;> omega
theorem Tie.symm {ts : List (Int × Int)} {x y : Int} (h : Tie ts x y) : Tie ts y x := by
  unfold Tie
  rw [tieOf_comm]
  exact h
/-- each name but the first is tied to an earlier one -/
theorem conn_of {n : Int} {os : List Int} {ts : List (Int × Int)} (pm : os.Perm ((List.range n.toNat).map (fun k => ((k : Nat) : Int)))) (h : ∀ k : Nat, k + 1 < os.length → ∃ d x y, d ≤ k ∧ os[k + 1]? = some x ∧ os[d]? = some y ∧ tieOf x y ∈ ts) : Conn n ts := by
  have all : ∀ (m i : Nat) x r, i ≤ m → os[i]? = some x → os[0]? = some r → ∃ k, Wk (Tie ts) k r x := by
    intro m
    induction m with
    | zero =>
      intro i x r hi hx hr
      have e : i = 0 := by omega
      subst e
      rw [hx] at hr
      have e := Option.some.inj hr
      subst e
      exact ⟨0, .nil _⟩
    | succ m ih =>
      intro i x r hi hx hr
      cases i with
      | zero => exact ih 0 x r (Nat.zero_le _) hx hr
      | succ i =>
        obtain ⟨d, x', y, hd, h1, h2, h3⟩ := h i (List.getElem?_eq_some_iff.mp hx).1
        rw [hx] at h1
        have e := Option.some.inj h1
        subst e
        obtain ⟨k, wk⟩ := ih d y r (by omega) h2 hr
        exact ⟨k + 1, .snoc wk (by unfold Tie; rw [tieOf_comm]; exact h3)⟩
  intro x x0 x1 y y0 y1
  have mem : ∀ z : Int, 0 ≤ z → z < n → z ∈ os := fun z z0 z1 => pm.mem_iff.mpr (List.mem_map.mpr ⟨z.toNat, by rw [List.mem_range]; omega, by omega⟩)
  obtain ⟨i, hi, ei⟩ := List.mem_iff_getElem.mp (mem x x0 x1)
  obtain ⟨j, hj, ej⟩ := List.mem_iff_getElem.mp (mem y y0 y1)
  obtain ⟨r, hr⟩ := getn (l := os) (i := 0) (by omega)
  obtain ⟨k1, w1⟩ := all i i x r (Nat.le_refl _) (List.getElem?_eq_some_iff.mpr ⟨hi, ei⟩) hr
  obtain ⟨k2, w2⟩ := all j j y r (Nat.le_refl _) (List.getElem?_eq_some_iff.mpr ⟨hj, ej⟩) hr
  exact ⟨k1 + k2, (w1.rev (fun _ _ h => Tie.symm h)).trans w2⟩
theorem paired_fwd {α β : Type} {F : α → β → Prop} : ∀ {xs : List α} {ys : List β}, Paired F xs ys → ∀ {i : Nat} {x : α}, xs[i]? = some x → ∃ y, ys[i]? = some y ∧ F x y := paired_get
theorem Prs.upd {H : Hp} {a : Addr} {ys zs : List V} (ha : H a = some (.lst ys)) {xs : List V} {ts : List (Int × Int)} (h : Paired (Pr H) xs ts) : Paired (Pr (upd H a (.lst zs))) xs ts :=
  Paired.mapP h fun _ _ ⟨b, e, hb⟩ => ⟨b, e, by rw [upd_ne (ne_of hb ha (by intro z; cases z))]; exact hb⟩
theorem Prs.updT {H : Hp} {a : Addr} {ys zs : List (List L2.Key × V)} (ha : H a = some (.dT ys)) {xs : List V} {ts : List (Int × Int)} (h : Paired (Pr H) xs ts) : Paired (Pr (L2.upd H a (.dT zs))) xs ts :=
  Paired.mapP h fun _ _ ⟨b, e, hb⟩ => ⟨b, e, by rw [upd_ne (ne_of hb ha (by intro z; cases z))]; exact hb⟩
theorem rep_flat (k : Nat) (z : Int) : (List.replicate k [V.int z]).flatten = (List.replicate k z).map V.int := by
  induction k with
  | zero => rfl
  | succ k ih => rw [List.replicate_succ, List.flatten_cons, ih, List.replicate_succ]; rfl
def szs (most more n : Int) : List Int := (([most, more + 1] ++ (List.range (n - 1).toNat).map (fun k => ((k : Nat) : Int) + 1)) ++ (List.range n.toNat).map (fun k => n - ((k : Nat) : Int))) ++ List.replicate more.toNat (n * n)
theorem szs_len {most more n : Int} (h : 1 ≤ n) : (szs most more n).length = 2 * n.toNat + 1 + more.toNat := by
  unfold szs
  simp
  omega
theorem range_map_get {f : Nat → Int} {n k : Nat} (h : k < n) : ((List.range n).map f)[k]? = some (f k) := by
  rw [List.getElem?_map, List.getElem?_eq_getElem (by simpa using h)]
  simp
theorem szs_1 {most more n : Int} (h : 1 ≤ n) : (szs most more n)[1]? = some (more + 1) := by
  unfold szs
  rw [List.getElem?_append_left (by simp <;> omega), List.getElem?_append_left (by simp <;> omega), List.getElem?_append_left (by simp)]
  rfl
theorem szs_2 {most more n : Int} (h : 1 ≤ n) {k : Nat} (hk : (k : Int) < n - 1) : (szs most more n)[2 + k]? = some ((k : Int) + 1) := by
  unfold szs
  rw [List.getElem?_append_left (by simp; omega), List.getElem?_append_left (by simp; omega), List.getElem?_append_right (by simp), show 2 + k - [most, more + 1].length = k by simp]
  exact range_map_get (by omega)
theorem szs_3 {most more n : Int} (h : 1 ≤ n) {k : Nat} (hk : (k : Int) < n) : (szs most more n)[n.toNat + 1 + k]? = some (n - (k : Int)) := by
  unfold szs
  have hl : ([most, more + 1] ++ (List.range (n - 1).toNat).map (fun k => ((k : Nat) : Int) + 1)).length = n.toNat + 1 := by simp; omega
  rw [List.getElem?_append_left (by rw [List.length_append, hl]; simp; omega), List.getElem?_append_right (by rw [hl]; omega), hl, show n.toNat + 1 + k - (n.toNat + 1) = k by omega]
  exact range_map_get (by omega)
theorem szs_4 {most more n : Int} (h : 1 ≤ n) {k : Nat} (hk : (k : Int) < more) : (szs most more n)[2 * n.toNat + 1 + k]? = some (n * n) := by
  unfold szs
  have hl : (([most, more + 1] ++ (List.range (n - 1).toNat).map (fun k => ((k : Nat) : Int) + 1)) ++ (List.range n.toNat).map (fun k => n - ((k : Nat) : Int))).length = 2 * n.toNat + 1 := by simp; omega
  rw [List.getElem?_append_right (by rw [hl]; omega), hl, show 2 * n.toNat + 1 + k - (2 * n.toNat + 1) = k by omega, List.getElem?_replicate, if_pos (by omega)]
theorem szs_ok {most more n : Int} (h1 : 1 ≤ n) (h2 : n ≤ 40) (h3 : 1 ≤ most) (h4 : most ≤ 40) (h5 : 0 ≤ more) (h6 : more ≤ 120) : SzOk (szs most more n) := by
  intro s hs
  have hnn : n * n ≤ 1600 := Int.le_trans (Int.mul_le_mul h2 h2 (by omega) (by omega)) (by decide)
  have hn1 : 1 ≤ n * n := Int.le_trans (by decide : (1 : Int) ≤ 1 * 1) (Int.mul_le_mul h1 h1 (by omega) (by omega))
  unfold szs at hs
  rcases List.mem_append.mp hs with hs | hs
  · rcases List.mem_append.mp hs with hs | hs
    · rcases List.mem_append.mp hs with hs | hs
      · simp at hs
        omega
      · obtain ⟨k, hk, rfl⟩ := List.mem_map.mp hs
        rw [List.mem_range] at hk
        omega
    · obtain ⟨k, hk, rfl⟩ := List.mem_map.mp hs
      rw [List.mem_range] at hk
      omega
  · have e := List.eq_of_mem_replicate hs
    omega
/-- names in an order -/
structure OrdOk (n : Int) (os : List Int) : Prop where
  len : os.length = n.toNat
  nd : os.Nodup
  mem : ∀ x ∈ os, 0 ≤ x ∧ x < n
theorem OrdOk.get {n : Int} {os : List Int} (h : OrdOk n os) {i : Int} (h0 : 0 ≤ i) (h1 : i < n) : ∃ x, os[i.toNat]? = some x ∧ atI (os.map V.int) i = some (.int x) ∧ 0 ≤ x ∧ x < n := by
  have hl := h.len
  obtain ⟨x, e1, e2⟩ := ints_at (ns := os) h0 (by omega)
  exact ⟨x, e1, e2, h.mem x (List.mem_of_getElem? e1)⟩
def insT (ts : List (Int × Int)) (t : Int × Int) : List (Int × Int) := if t ∈ ts then ts else ts ++ [t]
theorem find_tdict (ts : List (Int × Int)) (t : Int × Int) : valV (tdict ts) (keyT t) = if t ∈ ts then some (V.bl true) else none := by
  induction ts with
  | nil => rfl
  | cons u ts ih =>
    have e : tdict (u :: ts) = (keyT u, V.bl true) :: tdict ts := rfl
    rw [e]
    unfold valV at ih ⊢
    rw [List.find?_cons]
    by_cases h : u = t
    · subst h
      simp
    · have hk : ¬ keyT u = keyT t := fun q => by
        have e1 := (List.cons.inj q).1
        have e2 := (List.cons.inj (List.cons.inj q).2).1
        exact h (Prod.ext (Sum.inl.inj e1) (Sum.inl.inj e2))
      have h' : ¬ t = u := fun q => h q.symm
      simp only [hk, decide_false, List.mem_cons, h', false_or]
      exact ih
theorem put_tdict (ts : List (Int × Int)) (t : Int × Int) : putK (tdict ts) (keyT t) (V.bl true) = tdict (insT ts t) := by
  unfold insT
  by_cases h : t ∈ ts
  · rw [if_pos h]
    have e := find_tdict ts t
    rw [if_pos h] at e
    unfold putK
    unfold tdict
    rw [if_pos]
    · rw [List.map_map]
      refine List.map_congr_left fun u hu => ?_
      show (if keyT u = keyT t then (keyT u, V.bl true) else (keyT u, V.bl true)) = _
      split <;> rfl
    · rw [List.any_eq_true]
      exact ⟨(keyT t, V.bl true), List.mem_map.mpr ⟨t, h, rfl⟩, by simp⟩
  · rw [if_neg h]
    have e := find_tdict ts t
    rw [if_neg h] at e
    rw [putK_new _ e]
    unfold tdict
    rw [List.map_append]
    rfl
theorem insT_len (ts : List (Int × Int)) (t : Int × Int) : (insT ts t).length ≤ ts.length + 1 := by
  unfold insT
  split
  · omega
  · simp
/-- ties told so far -/
structure TOk (n : Int) (ts : List (Int × Int)) : Prop where
  nd : ts.Nodup
  good : ∀ t ∈ ts, 0 ≤ t.1 ∧ t.1 < t.2 ∧ t.2 < n
theorem TOk.ins {n : Int} {ts : List (Int × Int)} {t : Int × Int} (h : TOk n ts) (g : 0 ≤ t.1 ∧ t.1 < t.2 ∧ t.2 < n) : TOk n (insT ts t) := by
  unfold insT
  by_cases m : t ∈ ts
  · rw [if_pos m]
    exact h
  · rw [if_neg m]
    refine ⟨List.nodup_append.mpr ⟨h.nd, by simp, fun a ha b hb e => ?_⟩, fun u hu => ?_⟩
    · have e2 : b = t := by simpa using hb
      subst e2
      subst e
      exact m ha
    · rcases List.mem_append.mp hu with hu | hu
      · exact h.good u hu
      · have e2 : u = t := by simpa using hu
        subst e2
        exact g
theorem TOk.srt {n : Int} {ts : List (Int × Int)} (h : TOk n ts) (h1 : 1 ≤ n) (h2 : n ≤ 40) (h3 : ts.length ≤ 120) : WebOk n (srt ts) := by
  have pm := srt_perm ts
  refine ⟨h1, h2, by rw [pm.length_eq]; exact h3, fun t ht => h.good t (pm.mem_iff.mp ht), ?_⟩
  have nd : (G39.srt ts).Nodup := pm.nodup_iff.mpr h.nd
  have so := srt_sorted ts
  refine (List.pairwise_iff_getElem.mpr fun i j hi hj hij => ?_)
  have a := List.pairwise_iff_getElem.mp so i j hi hj hij
  have b : (G39.srt ts)[i] ≠ (G39.srt ts)[j] := fun e => by
    have := (List.getElem_inj nd).mp e
    omega
  rw [leT_iff] at a
  unfold ltT
  rcases a with a | ⟨a, c⟩
  · exact .inl a
  · refine .inr ⟨a, ?_⟩
    rcases Int.lt_or_eq_of_le c with c | c
    · exact c
    · exact absurd (Prod.ext a c) b
theorem tieOf_ok {n x y : Int} (hx : 0 ≤ x ∧ x < n) (hy : 0 ≤ y ∧ y < n) (ne : x ≠ y) : 0 ≤ (tieOf x y).1 ∧ (tieOf x y).1 < (tieOf x y).2 ∧ (tieOf x y).2 < n := by
  unfold tieOf
  simp only
  split <;> split <;> omega
def sp_law_web (K : PySem.W.Frag) : Sp := fun vs H Q _ => ∃ (c s most more : Int), vs = [.int c, .int s, .int most, .int more] ∧ 1 ≤ most ∧ most ≤ 40 ∧ 0 ≤ more ∧ most - 1 + more ≤ 120 ∧
  ∀ (n : Int) (ts : List (Int × Int)) (p a : Addr) (xs : List V) (H' : Hp), WebOk n ts → n ≤ most → Conn n ts → Same H H' → H p = none → H a = none → H' p = some (.tup [.int n, .ref a]) → H' a = some (.lst xs) → Paired (Pr H') xs ts → Q (.ref p) H'
def t_law_web (K : PySem.W.Frag) : TS := (tSeq (tAsg (tOp rAdd (tC (.int 1)) (tOp (rIxL K) (tCall (sp_law_numbers K) [] E0 (tCons (tVar 0) (tCons (tVar 1) (tCons (tLstG (tCons (tVar 2) tNil)) tNil)))) (tC (.int 0)))) (gName 4))
    (tSeq (tAsg (tOp rCatG (tOp rCatG (tLstG (tCons (tVar 2) (tCons (tOp rAdd (tVar 3) (tC (.int 1))) tNil))) (tLc (iRng1 (tCons (tOp rSub (tVar 4) (tC (.int 1))) tNil)) (gName 6) tYes (tOp rAdd (tVar 6) (tC (.int 1))) [6])) (tLc (iRng1 (tCons (tVar 4) tNil)) (gName 6) tYes (tOp rSub (tVar 4) (tVar 6)) [6])) (gName 5))
    (tSeq (tAsg (tCall (sp_law_numbers K) [] E0 (tCons (tVar 0) (tCons (tVar 1) (tCons (tOp rCatG (tVar 5) (tOp rRepG (tLstG (tCons (tOp rMul (tVar 4) (tVar 4)) tNil)) (tVar 3))) tNil)))) (gName 7))
    (tSeq (tAsg (tLstRgG (tRg1 (tVar 4))) (gName 8))
    (tSeq (tAsg (tLstG tNil) (gName 9))
    (tSeq (tFor (iRng1 (tCons (tVar 4) tNil)) (gName 6) (tDrop (tBM K "list" rAppend (tVar 9) (tCons (tBM K "list" rPopAt (tVar 8) (tCons (tOp (rIxL K) (tVar 7) (tOp rAdd (tOp rAdd (tVar 4) (tC (.int 1))) (tVar 6))) tNil)) tNil))))
    (tSeq (tAsg (tLc (iRng1 (tCons (tOp rSub (tVar 4) (tC (.int 1))) tNil)) (gName 6) tYes (tTupG (tCons (tOp rAdd (tVar 6) (tC (.int 1))) (tCons (tOp (rIxL K) (tVar 7) (tOp rAdd (tC (.int 2)) (tVar 6))) tNil))) [6]) (gName 10))
    (tSeq (tFor (iList K (tSl (rSlLG K) (tVar 7) (tPart (tOp rAdd (tOp rMul (tC (.int 2)) (tVar 4)) (tC (.int 1)))) (tPart (tOp rAdd (tOp rAdd (tOp rMul (tC (.int 2)) (tVar 4)) (tC (.int 1))) (tOp (rIxL K) (tVar 7) (tC (.int 1))))))) (gName 11) (tDrop (tBM K "list" rAppend (tVar 10) (tCons (tTupG (tCons (tOp rDiv (tVar 11) (tVar 4)) (tCons (tOp rMod (tVar 11) (tVar 4)) tNil))) tNil))))
    (tSeq (tAsg tDNewTG (gName 12))
    (tSeq (tFor (iList K (tVar 10)) (gTup K 2 (gCons (gName 13) (gCons (gName 14) gNil))) (tIfS (tTest (tOp rNe (tVar 13) (tVar 14))) (sDPut (tVar 12) (tTupG (tCons (tCB rMin2 (tCons (tOp (rIxL K) (tVar 9) (tVar 13)) (tCons (tOp (rIxL K) (tVar 9) (tVar 14)) tNil))) (tCons (tCB rMax2 (tCons (tOp (rIxL K) (tVar 9) (tVar 13)) (tCons (tOp (rIxL K) (tVar 9) (tVar 14)) tNil))) tNil))) (tC (.bl true))) tNext))
    (tRet (tTupG (tCons (tVar 4) (tCons (tCB rSortedDT (tCons (tVar 12) tNil)) tNil))))))))))))))
theorem map_erase {α β : Type} (f : α → β) : ∀ (l : List α) (k : Nat), (l.map f).eraseIdx k = (l.eraseIdx k).map f
  | [], _ => rfl
  | _ :: _, 0 => rfl
  | x :: l, k + 1 => by
    show f x :: (l.map f).eraseIdx k = f x :: (l.eraseIdx k).map f
    rw [map_erase f l k]
theorem erase_perm {α : Type} : ∀ {l : List α} {k : Nat} (h : k < l.length), (l[k] :: l.eraseIdx k).Perm l
  | x :: l, 0, _ => List.Perm.refl _
  | x :: l, k + 1, h => by
    show (l[k]'(by simpa using h) :: x :: l.eraseIdx k).Perm (x :: l)
    exact (List.Perm.swap x _ _).trans (List.Perm.cons x (erase_perm (l := l) (by simpa using h)))
theorem rgV_ints (n : Int) : rgV 0 n = ((List.range n.toNat).map (fun k => ((k : Nat) : Int))).map V.int := by
  unfold rgV
  rw [List.map_map, Int.sub_zero]
  refine List.map_congr_left fun k _ => ?_
  show V.int (0 + (k : Int)) = V.int (k : Int)
  rw [Int.zero_add]
theorem range_ints_nd (m : Nat) : ((List.range m).map (fun k => ((k : Nat) : Int))).Nodup := by
  refine List.pairwise_map.mpr (List.Pairwise.imp (fun {a b} h e => h (by omega)) (List.nodup_range (n := m)))
theorem cut_ints {ds : List Int} {lo hi : Option Int} : ∃ es : List Int, cutV (ds.map V.int) lo hi = es.map V.int ∧ es = (ds.drop (HT.sIx ds.length 0 lo)).take (HT.sIx ds.length ds.length hi - HT.sIx ds.length 0 lo) := by
  refine ⟨_, ?_, rfl⟩
  unfold cutV
  rw [List.length_map, List.map_take, List.map_drop]
theorem pure_law_web {K : PySem.W.Frag} {vs : List V} {H : Hp} {Q : VK} {E : XK} (h : sp_law_web K vs H Q E) :
    t_law_web K (Fin Q) (start ["_law_cell", "_law_salt", "_law_most", "_law_more", "_law_many", "_law_sizes", "_law_k", "_law_digits", "_law_names", "_law_order", "_law_pairs", "_law_digit", "_law_ties", "_law_one", "_law_other"] vs) H := by
  obtain ⟨c, s, most, more, rfl, m1, m2, m3, m4, q⟩ := h
  have hsz : sizeLine = 16777216 := sizeLine_eq
  -- many
  refine ⟨_, rfl, _, rfl, _, rfl, by show 1 ≤ sizeLine; omega, fun l0 H1 nl0 s1 hl0 => ?_⟩
  refine ⟨c, s, l0, [most], rfl, hl0, fun z hz => ?_, by show 1 ≤ 10000; decide, fun ds0 d0 H2 D0 nd0 s2 hd0 => ?_⟩
  · have e : z = most := by simpa using hz
    omega
  obtain ⟨e0, g0, g1, g2⟩ := paired_fwd D0 (i := 0) rfl
  refine ⟨_, _, _, _, rfl, rfl, sql hd0, atI_nat (j := 0) (map_int_get g0), _, _, rfl, rfl, ?_⟩
  have s12 := s1.trans s2
  obtain ⟨n, hn⟩ : ∃ n : Int, n = 1 + e0 := ⟨_, rfl⟩
  show tSeq _ _ _ (List.set _ 4 (some (V.int (1 + e0)))) H2
  rw [← hn]
  have n1 : 1 ≤ n := by omega
  have n2 : n ≤ most := by omega
  clear hd0 g0 D0 hl0 hn
  -- sizes
  refine ⟨_, rfl, _, rfl, _, _, rfl, rfl, by show 2 ≤ sizeLine; omega, fun l1 H3 nl1 s3 hl1 => ?_⟩
  refine ⟨_, rfl, _, _, rfl, rfl, n - 1, rfl, by omega, by omega, fun D1 nD1 => ?_⟩
  refine lc_ints walk_range nD1 (fun k => ((k : Nat) : Int) + 1) (by omega) (fun _ _ => trivial) (fun i x Ha Hb Nx Ny hi sa y hN => ?_) (fun H4 s4 hD1 => ?_)
  · obtain ⟨rfl, rfl⟩ := y
    refine ⟨rfl, _, rfl, _, _, rfl, rfl, ?_⟩
    have := hN Hb (Same.refl _)
    show Nx (V.int (0 + (i : Int) + 1)) Hb
    rw [show (0 : Int) + (i : Int) + 1 = (i : Int) + 1 by omega]
    exact this
  refine ⟨l1, D1, _, _, rfl, rfl, s4 _ _ hl1, hD1, ?_, fun l2 H5 nl2 s5 hl2 => ?_⟩
  · rw [List.length_map, List.length_map, List.length_range]
    show 2 + _ ≤ _
    omega
  refine ⟨_, rfl, n, rfl, by omega, by omega, fun D2 nD2 => ?_⟩
  refine lc_ints walk_range nD2 (fun k => n - ((k : Nat) : Int)) (by omega) (fun _ _ => trivial) (fun i x Ha Hb Nx Ny hi sa y hN => ?_) (fun H6 s6 hD2 => ?_)
  · obtain ⟨rfl, rfl⟩ := y
    refine ⟨rfl, _, rfl, _, rfl, _, _, rfl, rfl, ?_⟩
    have := hN Hb (Same.refl _)
    show Nx (V.int (n - (0 + (i : Int)))) Hb
    rw [show n - (0 + (i : Int)) = n - (i : Int) by omega]
    exact this
  refine ⟨l2, D2, _, _, rfl, rfl, s6 _ _ hl2, hD2, ?_, fun l3 H7 nl3 s7 hl3 => ?_⟩
  · simp
    omega
  -- digits
  refine ⟨_, rfl, _, rfl, _, rfl, _, rfl, _, rfl, _, _, rfl, rfl, .inl ⟨by omega, by omega⟩, by show 1 ≤ sizeLine; omega, fun l4 H8 nl4 s8 hl4 => ?_⟩
  refine ⟨_, rfl, l4, more, _, rfl, rfl, hl4, by omega, by omega, by show 1 * more.toNat ≤ sizeLine; omega, fun l5 H9 nl5 s9 hl5 => ?_⟩
  refine ⟨l3, l5, _, _, rfl, rfl, s9 _ _ (s8 _ _ hl3), hl5, ?_, fun l6 H10 nl6 s10 hl6 => ?_⟩
  · rw [rep_flat]
    simp
    omega
  have e6 : H10 l6 = some (.lst ((szs most more n).map V.int)) := by
    rw [hl6, rep_flat]
    unfold szs
    rw [List.map_append, List.map_append, List.map_append]
    rfl
  refine ⟨c, s, l6, szs most more n, rfl, e6, szs_ok n1 (by omega) m1 m2 m3 (by omega), by rw [szs_len n1]; omega, fun ds dg H11 D ndg s11 hdg => ?_⟩
  have sA : Same H H11 := s12.trans (s3.trans (s4.trans (s5.trans (s6.trans (s7.trans (s8.trans (s9.trans (s10.trans s11))))))))
  clear hl1 hD1 hl2 hD2 hl3 hl4 hl5 hl6 e6
  have dl : ds.length = 2 * n.toNat + 1 + more.toNat := by rw [← Paired.length D, szs_len n1]
  -- names, order
  refine ⟨_, rfl, n, rfl, RgOk.of_le (by omega) (by omega) (by omega) (by omega), fun nm H12 nnm s12' hnm => ?_⟩
  refine ⟨Nat.zero_le _, fun od H13 nod s13 hod => ?_⟩
  have nodnm : od ≠ nm := fun e => by
    rw [e, hnm] at nod
    cases nod
  refine ⟨_, rfl, n, rfl, by omega, by omega, ?_⟩
  refine for_range (lo := 0) (n := n.toNat) (fun i σ H2 => ∃ (nms os : List Int) (v6 : Option V), σ = [some (.int c), some (.int s), some (.int most), some (.int more), some (.int n), some (.ref l3), v6, some (.ref dg), some (.ref nm), some (.ref od), none, none, none, none, none] ∧
      Same H11 H2 ∧ H2 nm = some (.lst (nms.map V.int)) ∧ H2 od = some (.lst (os.map V.int)) ∧ nms.length + i = n.toNat ∧ os.length = i ∧ (os ++ nms).Perm ((List.range n.toNat).map (fun k => ((k : Nat) : Int))))
    ⟨_, [], none, rfl, s12'.trans s13, (by rw [← rgV_ints]; exact s13 _ _ hnm), hod, by simp, rfl, by simp⟩ ?_ ?_
  · rintro i σ H2 hi ⟨nms, os, v6, rfl, t2, hn2, ho2, el, eo, pm⟩
    obtain ⟨d, gd, d0', d1'⟩ := paired_fwd D (szs_3 (most := most) (more := more) n1 (k := i) (by omega))
    have hat : atI (ds.map V.int) (n + 1 + (0 + (i : Int))) = some (.int d) := at_of (j := n.toNat + 1 + i) (by omega) (map_int_get gd)
    obtain ⟨y, gy⟩ := getn (l := nms) (i := d.toNat) (by omega)
    refine ⟨_, rfl, tyl ho2, _, rfl, tyl hn2, _, rfl, _, rfl, _, _, rfl, rfl, _, rfl, _, _, rfl, rfl, _, _, _, _, rfl, rfl, sql (t2 _ _ hdg), hat, nm, _, d, d.toNat, _, rfl, rfl, hn2, by omega, by omega, ?_, map_int_get gy, ?_⟩
    · rw [List.length_map]
      exact (ixN_seq (n := nms.length) (i := d) (by unfold ixN; rw [if_pos (by omega), if_pos (by omega)])).1
    · have ho3 : ∀ o, (upd H2 nm o) od = some (.lst (os.map V.int)) := fun o => by rw [upd_ne nodnm]; exact ho2
      refine ⟨od, _, _, rfl, rfl, ho3 _, by rw [List.length_map]; omega, nms.eraseIdx d.toNat, os ++ [y], _, rfl, same_mut (same_mut t2 nnm) (s12'.free nod), ?_, app_int, ?_, ?_, ?_⟩
      · rw [upd_ne nodnm.symm, upd_same, map_erase]
      · have := List.length_eraseIdx_of_lt (l := nms) (i := d.toNat) (by omega)
        omega
      · rw [List.length_append]
        show os.length + 1 = i + 1
        omega
      · obtain ⟨hlt, ey⟩ := List.getElem?_eq_some_iff.mp gy
        have p2 := erase_perm hlt
        rw [ey] at p2
        rw [List.append_assoc]
        exact (List.Perm.append_left os p2).trans pm
  rintro σ H14 ⟨nms, os, v6, rfl, t14, hnm14, hod14, el, eo, pm⟩
  have enm : nms = [] := List.length_eq_zero_iff.mp (by omega)
  subst enm
  rw [List.append_nil] at pm
  have OO : OrdOk n os := ⟨eo, pm.nodup_iff.mpr (range_ints_nd _), fun x hx => by
    obtain ⟨k, hk, rfl⟩ := List.mem_map.mp (pm.mem_iff.mp hx)
    rw [List.mem_range] at hk
    omega⟩
  have hdg14 := t14 _ _ hdg
  clear hnm14 hnm hod
  -- pairs
  refine ⟨_, rfl, _, _, rfl, rfl, n - 1, rfl, by omega, by omega, fun pr npr => ?_⟩
  refine lc_objs walk_range npr (fun k => .tup [.int (((k : Nat) : Int) + 1), .int (ds.getD (2 + k) 0)]) (by omega) (fun _ _ => trivial) (fun i x Ha Hb Nx Ny hi sa y hN => ?_) (fun H15 bs s15 hpr hbl hbn hbs => ?_)
  · obtain ⟨rfl, rfl⟩ := y
    obtain ⟨d, gd, d0', d1'⟩ := paired_fwd D (szs_2 (most := most) (more := more) n1 (k := i) (by omega))
    have hat : atI (ds.map V.int) (2 + (0 + (i : Int))) = some (.int d) := at_of (j := 2 + i) (by omega) (map_int_get gd)
    refine ⟨rfl, _, rfl, _, _, rfl, rfl, _, rfl, _, rfl, _, _, rfl, rfl, _, _, _, _, rfl, rfl, sql (sa _ _ hdg14), hat, by show 2 ≤ sizeLine; omega, fun b H5 nb s5 h5 => hN b H5 nb s5 ?_⟩
    rw [h5, List.getD_eq_getElem?_getD, gd]
    show some (HO.tup [V.int (0 + (i : Int) + 1), V.int d]) = some (HO.tup [V.int ((i : Int) + 1), V.int d])
    rw [show (0 : Int) + (i : Int) + 1 = (i : Int) + 1 by omega]
  have hP15 : ∃ ps : List (Int × Int), Paired (Pr H15) (bs.map V.ref) ps ∧ (∀ t ∈ ps, (0 ≤ t.1 ∧ t.1 < n) ∧ 0 ≤ t.2 ∧ t.2 < n) ∧ ∀ k : Nat, (k : Int) < n - 1 → ∃ d : Int, ps[k]? = some ((k : Int) + 1, d) ∧ 0 ≤ d ∧ d < (k : Int) + 1 := by
    refine ⟨bs.zipIdx.map fun b => ((b.2 : Int) + 1, ds.getD (2 + b.2) 0), ?_, fun t ht => ?_, fun k hk => ?_⟩
    · have aux : ∀ (cs : List Addr) (j : Nat), (∀ (i : Nat) b, cs[i]? = some b → H15 b = some (.tup [.int (((j + i : Nat) : Int) + 1), .int (ds.getD (2 + (j + i)) 0)])) → Paired (Pr H15) (cs.map V.ref) ((cs.zipIdx j).map fun b => ((b.2 : Int) + 1, ds.getD (2 + b.2) 0)) := by
        intro cs
        induction cs with
        | nil => intro j _; exact .nil
        | cons b cs ih =>
          intro j hj
          refine .cons ⟨b, rfl, hj 0 b rfl⟩ (ih (j + 1) fun i b' e => ?_)
          have := hj (i + 1) b' e
          rw [show j + 1 + i = j + (i + 1) by omega]
          exact this
      refine aux bs 0 fun i b e => ?_
      rw [Nat.zero_add]
      exact (hbs i b e).1
    · obtain ⟨⟨b, k⟩, hk, rfl⟩ := List.mem_map.mp ht
      have hk2 := List.snd_lt_of_mem_zipIdx hk
      obtain ⟨d, gd, d0', d1'⟩ := paired_fwd D (szs_2 (most := most) (more := more) n1 (k := k) (by simp at hk2; omega))
      simp only
      rw [List.getD_eq_getElem?_getD, gd]
      simp at hk2
      refine ⟨by omega, ?_⟩
      show 0 ≤ d ∧ d < n
      omega
    · obtain ⟨d, gd, d0', d1'⟩ := paired_fwd D (szs_2 (most := most) (more := more) n1 (k := k) hk)
      refine ⟨d, ?_, d0', d1'⟩
      rw [List.getElem?_map, List.getElem?_zipIdx, List.getElem?_eq_getElem (by omega)]
      show some ((((0 + k : Nat) : Int) + 1, ds.getD (2 + (0 + k)) 0) : Int × Int) = _
      rw [Nat.zero_add, List.getD_eq_getElem?_getD, gd]
      rfl
  obtain ⟨ps1, hPs1, hps1, hps1k⟩ := hP15
  have hps1l : ps1.length = (n - 1).toNat := by
    rw [← Paired.length hPs1, List.length_map]
    exact hbl
  have hdg15 := s15 _ _ hdg14
  obtain ⟨dm, gdm, dm0, dm1⟩ := paired_fwd D (szs_1 (most := most) (more := more) n1)
  -- the slice
  refine ⟨_, rfl, _, rfl, _, _, rfl, rfl, .inl ⟨by decide, by decide⟩, _, _, rfl, rfl, _, rfl, _, rfl, _, _, rfl, rfl, .inl ⟨by decide, by decide⟩, _, _, rfl, rfl, _, rfl, _, _, _, _, rfl, rfl, sql hdg15, atI_nat (j := 1) (map_int_get gdm), _, _, rfl, rfl, _, rfl, dg, _, rfl, sql hdg15, fun sl H16 nsl s16 hsl => ?_⟩
  obtain ⟨es, ees, ees2⟩ := cut_ints (ds := ds) (lo := some (2 * n + 1)) (hi := some (2 * n + 1 + dm))
  rw [show cutV (ds.map V.int) (some (2 * n + 1)) (some (2 * n + 1 + dm)) = es.map V.int from ees] at hsl
  have el1 : HT.sIx ds.length 0 (some (2 * n + 1)) = 2 * n.toNat + 1 := by
    rw [show (2 * n + 1 : Int) = ((2 * n.toNat + 1 : Nat) : Int) by omega, HT.sIx_nat]
    omega
  have esb : es.length ≤ more.toNat := by
    rw [ees2, el1, List.length_take, List.length_drop]
    omega
  have esg : ∀ (j : Nat) d, es[j]? = some d → 0 ≤ d ∧ d < n * n := fun j d e => by
    have hj : j < es.length := (List.getElem?_eq_some_iff.mp e).1
    rw [ees2, el1, List.getElem?_take] at e
    split at e
    · rw [List.getElem?_drop] at e
      obtain ⟨d', gd', x1, x2⟩ := paired_fwd D (szs_4 (most := most) (more := more) n1 (k := j) (by omega))
      rw [gd'] at e
      have : d' = d := Option.some.inj e
      subst this
      exact ⟨x1, x2⟩
    · cases e
  clear ees ees2
  have nslpr : sl ≠ pr := fun e => by
    rw [e, hpr] at nsl
    cases nsl
  refine ⟨sl, rfl, ⟨_, sql hsl⟩, ?_⟩
  refine for_list (K := K) (a := sl) (xs := es.map V.int) (fun i σ H2 => ∃ (xs : List V) (ps : List (Int × Int)) (v11 : Option V), σ = [some (.int c), some (.int s), some (.int most), some (.int more), some (.int n), some (.ref l3), v6, some (.ref dg), some (.ref nm), some (.ref od), some (.ref pr), v11, none, none, none] ∧
      Same H14 H2 ∧ H2 sl = some (.lst (es.map V.int)) ∧ H2 pr = some (.lst xs) ∧ Paired (Pr H2) xs ps ∧ ps.length ≤ (n - 1).toNat + i ∧ (∀ t ∈ ps, (0 ≤ t.1 ∧ t.1 < n) ∧ 0 ≤ t.2 ∧ t.2 < n) ∧ ∀ (k : Nat) t, ps1[k]? = some t → ps[k]? = some t)
    ⟨_, ps1, none, rfl, s15.trans s16, hsl, s16 _ _ hpr, Prs.mono s16 hPs1, by omega, hps1, fun _ _ e => e⟩ (fun i σ H2 _ ⟨_, _, _, _, _, h2, _⟩ => sql h2) ?_ ?_
  · rintro i x σ H2 hi ⟨xs, ps, v11, rfl, t2, hsl2, hpr2, hP2, hpl, hpg, hpk⟩
    rw [List.getElem?_map] at hi
    cases ed : es[i]? with
    | none =>
      rw [ed] at hi
      cases hi
    | some d =>
      rw [ed] at hi
      have e2 : V.int d = x := Option.some.inj hi
      subst e2
      have hij : i < es.length := (List.getElem?_eq_some_iff.mp ed).1
      have gd := esg i d ed
      refine ⟨_, rfl, tyl hpr2, _, rfl, _, rfl, _, _, rfl, rfl, ⟨by show 0 < n; omega, by show n < 1073741824; omega⟩, _, rfl, _, rfl, _, _, rfl, rfl, by show 0 < n; omega, by show 2 ≤ sizeLine; omega, fun T H3 nT s3 hT => ?_⟩
      have hpr3 := s3 _ _ hpr2
      refine ⟨pr, _, _, rfl, rfl, hpr3, ?_, xs ++ [.ref T], ps ++ [(d / n, d % n)], _, rfl, same_mut (t2.trans s3) npr, ?_, upd_same, ?_, ?_, fun t ht => ?_, fun k t e => ?_⟩
      · rw [Paired.length hP2]
        omega
      · rw [upd_ne nslpr]
        exact s3 _ _ hsl2
      · exact Prs.upd hpr3 (Paired.snoc (Prs.mono s3 hP2) ⟨T, rfl, hT⟩)
      · rw [List.length_append]
        show ps.length + 1 ≤ _
        omega
      · rcases List.mem_append.mp ht with ht | ht
        · exact hpg t ht
        · have e3 : t = (d / n, d % n) := by simpa using ht
          subst e3
          refine ⟨⟨Int.ediv_nonneg gd.1 (by omega), Int.ediv_lt_of_lt_mul (by omega) gd.2⟩, Int.emod_nonneg _ (by omega), Int.emod_lt_of_pos _ (by omega)⟩
      · rw [List.getElem?_append_left (List.getElem?_eq_some_iff.mp (hpk k t e)).1]
        exact hpk k t e
  rintro σ H17 ⟨xs, ps, v11, rfl, t17, hsl17, hpr17, hP17, hpl, hpg, hpk⟩
  rw [List.length_map] at hpl
  have hod17 := t17 _ _ hod14
  -- the ties
  refine fun ti H18 nti s18 hti => ?_
  have hpr18 := s18 _ _ hpr17
  refine ⟨_, rfl, pr, rfl, ⟨_, sql hpr18⟩, ?_⟩
  refine for_list (K := K) (a := pr) (xs := xs) (fun i σ H2 => ∃ (ts : List (Int × Int)) (v13 v14 : Option V), σ = [some (.int c), some (.int s), some (.int most), some (.int more), some (.int n), some (.ref l3), v6, some (.ref dg), some (.ref nm), some (.ref od), some (.ref pr), v11, some (.ref ti), v13, v14] ∧
      Same H17 H2 ∧ H2 ti = some (.dT (tdict ts)) ∧ TOk n ts ∧ ts.length ≤ i ∧ ∀ (j : Nat) t, j < i → ps[j]? = some t → t.1 ≠ t.2 → ∀ x y, os[t.1.toNat]? = some x → os[t.2.toNat]? = some y → tieOf x y ∈ ts)
    ⟨[], none, none, rfl, s18, hti, ⟨List.nodup_nil, fun t ht => by simp at ht⟩, Nat.le_refl _, fun j t hj => absurd hj (by omega)⟩ (fun i σ H2 _ ⟨_, _, _, _, t2, _⟩ => sql (t2 _ _ hpr17)) ?_ ?_
  · rintro i x σ H2 hi ⟨ts, v13, v14, rfl, t2, hti2, hT, hTl, hTk⟩
    obtain ⟨t, ht, b, rfl, hb⟩ := paired_get hP17 hi
    obtain ⟨⟨g1, g2⟩, g3, g4⟩ := hpg t (List.mem_of_getElem? ht)
    have hil : i < xs.length := (List.getElem?_eq_some_iff.mp hi).1
    have hxl := Paired.length hP17
    refine ⟨b, _, rfl, sqt (t2 _ _ hb), rfl, _, _, rfl, _, _, rfl, rfl, ?_⟩
    refine ⟨_, rfl, _, rfl, rfl, _, rfl, ?_⟩
    by_cases e : t.1 = t.2
    · refine iteNS (congrArg V.int e) ?_
      refine ⟨ts, _, _, rfl, t2, hti2, hT, by omega, fun j u hj hu ne x y hx hy => ?_⟩
      by_cases ej : j = i
      · subst ej
        rw [ht] at hu
        have e2 := Option.some.inj hu
        subst e2
        exact absurd e ne
      · exact hTk j u (by omega) hu ne x y hx hy
    · rw [decide_eq_false (show ¬ V.int t.1 = V.int t.2 from fun q => e (V.int.inj q))]
      obtain ⟨x1, y1, y2, y3⟩ := OO.get g1 g2
      obtain ⟨x2, z1, z2, z3⟩ := OO.get g3 g4
      have hod2 := t2 _ _ hod17
      have ne : x1 ≠ x2 := fun q => by
        subst q
        have := nd_ix OO.nd y1 z1
        omega
      refine iteT ⟨_, rfl, _, rfl, _, rfl, _, _, _, _, rfl, rfl, sql hod2, y2, _, rfl, _, rfl, _, _, _, _, rfl, rfl, sql hod2, z2, _, _, rfl, _, rfl, _, rfl, _, _, _, _, rfl, rfl, sql hod2, y2, _, rfl, _, rfl, _, _, _, _, rfl, rfl, sql hod2, z2, _, _, rfl, by show 2 ≤ sizeLine; omega, fun T H3 nT s3 hT3 => ?_⟩
      have hti3 := s3 _ _ hti2
      refine ⟨ti, _, rfl, DPut.t (k := keyT (tieOf x1 x2)) hti3 hT3 ?_, ?_⟩
      · unfold tdict
        rw [List.length_map]
        omega
      · rw [put_tdict]
        have := insT_len ts (tieOf x1 x2)
        refine ⟨_, _, _, rfl, same_mut (t2.trans s3) nti, upd_same, hT.ins (tieOf_ok y3 z3 ne), by omega, fun j u hj hu ne' x y hx hy => ?_⟩
        by_cases ej : j = i
        · subst ej
          rw [ht] at hu
          have e2 := Option.some.inj hu
          subst e2
          rw [y1] at hx
          rw [z1] at hy
          have e3 := Option.some.inj hx
          have e4 := Option.some.inj hy
          subst e3
          subst e4
          unfold insT
          split
          · assumption
          · exact List.mem_append.mpr (.inr (by simp))
        · have := hTk j u (by omega) hu ne' x y hx hy
          unfold insT
          split
          · exact this
          · exact List.mem_append.mpr (.inl this)
  rintro σ H19 ⟨ts, v13, v14, rfl, t19, hti19, hT, hTl, hTk⟩
  have hxl := Paired.length hP17
  refine ⟨_, rfl, _, rfl, ti, ts, rfl, hti19, fun a H20 zs na s20 ha hz => ?_⟩
  refine ⟨by show 2 ≤ sizeLine; omega, fun p H21 np s21 hp => ?_⟩
  have sB : Same H H19 := sA.trans (t14.trans (t17.trans t19))
  have hconn : Conn n (srt ts) := by
    refine conn_of pm fun k hk => ?_
    have hol := OO.len
    obtain ⟨d, hd, d0, d1⟩ := hps1k k (by omega)
    obtain ⟨x, hx, _, x0, x1⟩ := OO.get (i := (k : Int) + 1) (by omega) (by omega)
    obtain ⟨y, hy, _, y0, y1⟩ := OO.get (i := d) (by omega) (by omega)
    refine ⟨d.toNat, x, y, by omega, ?_, hy, ?_⟩
    · rw [show k + 1 = ((k : Int) + 1).toNat by omega]
      exact hx
    · have := hTk k _ (by have := (List.getElem?_eq_some_iff.mp (hpk k _ hd)).1; omega) (hpk k _ hd) (by show ((k : Int) + 1) ≠ d; omega) x y hx hy
      exact (srt_perm ts).mem_iff.mpr this
  exact q n (srt ts) p a zs H21 (hT.srt n1 (by omega) (by omega)) n2 hconn (sB.trans (s20.trans s21)) (sB.free (s20.free np)) (sB.free na) hp (s21 _ _ ha) (Prs.mono s21 hz)
end G39

/-! The makers of webs, further: any web, some places. -/
namespace G39
open PySem PySem.Spec PyProof.Rows L2
theorem WebOk.sub {n : Int} {ts us : List (Int × Int)} (W : WebOk n ts) (h : us.Sublist ts) : WebOk n us :=
  ⟨W.lo, W.hi, Nat.le_trans h.length_le W.few, fun t ht => W.good t (h.subset ht), W.ord.sublist h⟩
def sp_law_any_web (K : PySem.W.Frag) : Sp := fun vs H Q _ => ∃ (a : Addr) (ns : List Int) (k s : Int), vs = [.ref a, .int k, .int s] ∧ SqL K H a (ns.map V.int) ∧ 0 ≤ k ∧
  ∀ (n : Int) (ts : List (Int × Int)) (p a : Addr) (xs : List V) (H' : Hp), WebOk n ts → Same H H' → H p = none → H a = none → H' p = some (.tup [.int n, .ref a]) → H' a = some (.lst xs) → Paired (Pr H') xs ts → Q (.ref p) H'
def t_law_any_web2 (K : PySem.W.Frag) : TS :=
    (tSeq (tAsg (tCall (sp_law_web K) [] E0 (tCons (tCall (sp_law_cell_at K) [] E0 (tCons (tVar 0) (tCons (tOp rMul (tC (.int 2)) (tVar 1)) tNil))) (tCons (tVar 2) (tCons (tVar 5) (tCons (tVar 6) tNil))))) (gTup K 2 (gCons (gName 7) (gCons (gName 8) gNil))))
    (tSeq (tAsg (tSl (rSlLG K) (tCall (sp_law_numbers K) [] E0 (tCons (tVar 3) (tCons (tOp rAdd (tVar 2) (tC (.int 1))) (tCons (tOp rCatG (tLstG (tCons (tC (.int 8)) (tCons (tC (.int 4)) tNil))) (tOp rRepG (tLstG (tCons (tC (.int 4)) tNil)) (tCB (rLenSq K) (tCons (tVar 8) tNil)))) tNil)))) (tPart (tC (.int 2))) tNoPart) (gName 9))
    (tRet (tTupG (tCons (tVar 7) (tCons (tLc (iZip K (tCons (tVar 8) (tCons (tVar 9) tNil))) (gTup K 2 (gCons (gName 10) (gCons (gName 11) gNil))) (tTest (tOp rGe (tVar 11) (tOp (rIxL K) (tVar 4) (tC (.int 1))))) (tVar 10) [10, 11]) tNil))))))
def t_law_any_web (K : PySem.W.Frag) : TS := (tSeq (tAsg (tCall (sp_law_cell_at K) [] E0 (tCons (tVar 0) (tCons (tOp rAdd (tOp rMul (tC (.int 2)) (tVar 1)) (tC (.int 1))) tNil))) (gName 3))
    (tSeq (tAsg (tCall (sp_law_numbers K) [] E0 (tCons (tVar 3) (tCons (tOp rAdd (tVar 2) (tC (.int 1))) (tCons (tLstG (tCons (tC (.int 8)) (tCons (tC (.int 4)) tNil))) tNil)))) (gName 4))
    (tSeq (tAsg (tOp (rIxL K) (tLstG (tCons (tTupG (tCons (tC (.int 12)) (tCons (tC (.int 8)) tNil))) (tCons (tTupG (tCons (tC (.int 40)) (tCons (tC (.int 81)) tNil))) tNil))) (tCB rInt1 (tCons (tAndV (tOp rEq (tOp (rIxL K) (tVar 4) (tC (.int 0))) (tC (.int 7))) (tOp rEq (tOp rMod (tVar 1) (tC (.int 4))) (tC (.int 0)))) tNil))) (gTup K 2 (gCons (gName 5) (gCons (gName 6) gNil))))
    (t_law_any_web2 K))))
theorem sub_range {α : Type} (ts : List α) (d : α) (n : Nat) (hn : n ≤ ts.length) (p : Nat → Bool) : (((List.range n).filter p).map fun i => ts.getD i d).Sublist ts := by
  have h1 : (((List.range n).filter p).map fun i => ts.getD i d).Sublist ((List.range n).map fun i => ts.getD i d) := (List.filter_sublist (p := p)).map _
  have h2 : ((List.range n).map fun i => ts.getD i d) = ts.take n := by
    apply List.ext_getElem?
    intro j
    rw [List.getElem?_map, List.getElem?_take]
    by_cases hj : j < n
    · rw [List.getElem?_range hj, if_pos hj, List.getElem?_eq_getElem (by omega)]
      show some (ts.getD j d) = _
      rw [List.getD_eq_getElem?_getD, List.getElem?_eq_getElem (by omega)]
      rfl
    · rw [if_neg hj, List.getElem?_eq_none (by simp; omega)]
      rfl
  rw [h2] at h1
  exact h1.trans (List.take_sublist n ts)
theorem prs_pick {H : Hp} {xs : List V} {ts : List (Int × Int)} (h : Paired (Pr H) xs ts) : ∀ (is : List Nat), (∀ i ∈ is, i < xs.length) → Paired (Pr H) (is.map fun i => xs.getD i .non) (is.map fun i => ts.getD i (0, 0))
  | [], _ => .nil
  | i :: is, hi => by
    have h1 := hi i List.mem_cons_self
    obtain ⟨t, ht, hp⟩ := paired_get h (List.getElem?_eq_getElem h1)
    refine .cons ?_ (prs_pick h is fun j hj => hi j (List.mem_cons_of_mem _ hj))
    show Pr H (xs.getD i .non) (ts.getD i (0, 0))
    rw [List.getD_eq_getElem?_getD, List.getD_eq_getElem?_getD, ht, List.getElem?_eq_getElem h1]
    exact hp
theorem any_web2 {K : PySem.W.Frag} {H : Hp} {Q : VK} {a hd : Addr} {ns : List Int} {k s o most more h0 h1 : Int} (ha : SqL K H a (ns.map V.int)) (k0 : 0 ≤ k) (hhd : H hd = some (.lst [.int h0, .int h1])) (m1 : 1 ≤ most) (m2 : most ≤ 40) (m3 : 0 ≤ more) (m4 : most - 1 + more ≤ 120)
    (q : ∀ (n : Int) (ts : List (Int × Int)) (p a : Addr) (xs : List V) (H' : Hp), WebOk n ts → Same H H' → H p = none → H a = none → H' p = some (.tup [.int n, .ref a]) → H' a = some (.lst xs) → Paired (Pr H') xs ts → Q (.ref p) H') :
    t_law_any_web2 K (Fin Q) [some (.ref a), some (.int k), some (.int s), some (.int o), some (.ref hd), some (.int most), some (.int more), none, none, none, none, none] H := by
  have hsz : sizeLine = 16777216 := sizeLine_eq
  refine ⟨_, rfl, _, rfl, _, _, rfl, rfl, .inl ⟨by decide, by decide⟩, a, ns, 2 * k, rfl, ha, by omega, fun c => ?_⟩
  refine ⟨_, rfl, _, rfl, _, rfl, c, s, most, more, rfl, m1, m2, m3, m4, fun n ts p b xs H1 W _ _ s1 np nb hp hb hx => ?_⟩
  have hxl := Paired.length hx
  have hfew := W.few
  refine ⟨p, _, rfl, sqt hp, rfl, _, _, rfl, _, _, rfl, rfl, ?_⟩
  refine ⟨_, rfl, _, rfl, _, _, rfl, rfl, by show 2 ≤ sizeLine; omega, fun l1 H2 nl1 s2 hl1 => ?_⟩
  refine ⟨by show 1 ≤ sizeLine; omega, fun l2 H3 nl2 s3 hl2 => ?_⟩
  have hb3 := s3 _ _ (s2 _ _ hb)
  refine ⟨_, rfl, b, xs, rfl, .inl (sql hb3), l2, _, _, rfl, rfl, hl2, by omega, by omega, by show 1 * (xs.length : Int).toNat ≤ sizeLine; omega, fun l3 H4 nl3 s4 hl3 => ?_⟩
  refine ⟨l1, l3, _, _, rfl, rfl, s4 _ _ (s3 _ _ hl1), hl3, ?_, fun l4 H5 nl4 s5 hl4 => ?_⟩
  · rw [rep_flat]
    simp
    omega
  have e4 : H5 l4 = some (.lst (([8, 4] ++ List.replicate (xs.length : Int).toNat (4 : Int)).map V.int)) := by
    rw [hl4, rep_flat, List.map_append]
    rfl
  refine ⟨o, s + 1, l4, _, rfl, e4, fun z hz => ?_, by simp; omega, fun ds d H6 D nd s6 hd => ?_⟩
  · rcases List.mem_append.mp hz with hz | hz
    · simp at hz
      omega
    · have := List.eq_of_mem_replicate hz
      omega
  have hdl : ds.length = 2 + xs.length := by
    rw [← Paired.length D]
    simp
    omega
  refine ⟨2, rfl, d, _, rfl, sql hd, fun dr H7 ndr s7 hdr => ?_⟩
  obtain ⟨es, ees, ees2⟩ := cut_ints (ds := ds) (lo := some 2) (hi := none)
  rw [ees] at hdr
  have el : es.length = xs.length := by
    rw [ees2, HT.sIx_none, show HT.sIx ds.length 0 (some 2) = min 2 ds.length from HT.sIx_nat ds.length 0 2, List.length_take, List.length_drop]
    omega
  have sB : Same H1 H7 := s2.trans (s3.trans (s4.trans (s5.trans (s6.trans s7))))
  have hb7 := sB _ _ hb
  have hhd7 := sB _ _ (s1 _ _ hhd)
  -- the zip
  refine ⟨_, rfl, _, rfl, _, rfl, b, dr, xs, es.map V.int, rfl, sql hb7, sql hdr, fun L nL => ?_⟩
  refine lc_pure (walk_zip (n := xs.length) (by rw [List.length_map, el, Nat.min_self])) nL (fun i => xs.getD i .non) (fun i => decide (h1 ≤ es.getD i 0)) (by omega) (fun H8 s8 => ⟨sql (s8 _ _ hb7), sql (s8 _ _ hdr)⟩) (fun i x H8 H9 Nx Ny hi s8 y hX hY => ?_) (fun H8 s8 hL => ?_)
  · obtain ⟨T, x1, x2, rfl, nT, rfl, e1, e2⟩ := y
    have s9 : Same H8 (upd H8 T (.tup [x1, x2])) := same_new nT
    have e2 : (es.map V.int)[i]? = some x2 := e2
    have e1 : xs[i]? = some x1 := e1
    rw [List.getElem?_map, List.getElem?_eq_getElem (by omega)] at e2
    have e2 : V.int (es[i]'(by omega)) = x2 := Option.some.inj e2
    subst e2
    have ex : es.getD i 0 = es[i]'(by omega) := by
      rw [List.getD_eq_getElem?_getD, List.getElem?_eq_getElem (by omega)]
      rfl
    have ey : xs.getD i .non = x1 := by
      rw [List.getD_eq_getElem?_getD, e1]
      rfl
    simp only [ex, ey] at hX hY
    refine ⟨T, _, rfl, sqt upd_same, rfl, _, _, rfl, _, _, rfl, rfl, rfl, ?_⟩
    refine ⟨_, rfl, _, rfl, _, _, _, _, rfl, rfl, sql (s9 _ _ (s8 _ _ hhd7)), atI_nat (j := 1) rfl, _, _, rfl, rfl, _, rfl, ?_⟩
    refine ite2 (fun c => ⟨_, rfl, hX c _ s9⟩) (fun c => hY ?_ _ s9)
    simpa using c
  · refine ⟨by show 2 ≤ sizeLine; omega, fun p' H9 np' s9 hp' => ?_⟩
    have sC : Same H H8 := s1.trans (sB.trans s8)
    refine q n _ p' L _ H9 (W.sub (sub_range ts (0, 0) xs.length (by omega) (fun i => decide (h1 ≤ es.getD i 0)))) (sC.trans s9) (sC.free np') ((s1.trans sB).free nL) hp' (s9 _ _ hL) ?_
    exact Prs.mono ((sB.trans s8).trans s9) (prs_pick hx _ fun i hi => by
      have := (List.mem_filter.mp hi).1
      simpa using this)
theorem pure_law_any_web {K : PySem.W.Frag} {vs : List V} {H : Hp} {Q : VK} {E : XK} (h : sp_law_any_web K vs H Q E) :
    t_law_any_web K (Fin Q) (start ["_law_script", "_law_k", "_law_salt", "_law_other", "_law_head", "_law_most", "_law_more", "_law_many", "_law_ties", "_law_drops", "_law_tie", "_law_drop"] vs) H := by
  obtain ⟨a, ns, k, s, rfl, ha, k0, q⟩ := h
  have hsz : sizeLine = 16777216 := sizeLine_eq
  refine ⟨_, rfl, _, rfl, _, _, rfl, rfl, .inl ⟨by decide, by decide⟩, _, _, rfl, rfl, a, ns, 2 * k + 1, rfl, ha, by omega, fun o => ?_⟩
  refine ⟨_, rfl, _, rfl, _, _, rfl, rfl, by show 2 ≤ sizeLine; omega, fun l1 H1 nl1 s1 hl1 => ?_⟩
  refine ⟨o, s + 1, l1, [8, 4], rfl, hl1, fun z hz => by simp at hz; omega, by decide, fun ds hd H2 D nhd s2 hhd => ?_⟩
  obtain ⟨h0, h1, rfl⟩ : ∃ h0 h1, ds = [h0, h1] := by
    match ds, D with
    | [x, y], _ => exact ⟨x, y, rfl⟩
  refine ⟨by show 2 ≤ sizeLine; omega, fun T1 H3 nT1 s3 hT1 => ?_⟩
  refine ⟨by show 2 ≤ sizeLine; omega, fun T2 H4 nT2 s4 hT2 => ?_⟩
  refine ⟨by show 2 ≤ sizeLine; omega, fun l2 H5 nl2 s5 hl2 => ?_⟩
  have sA : Same H H5 := s1.trans (s2.trans (s3.trans (s4.trans s5)))
  have hhd5 : H5 hd = some (.lst [.int h0, .int h1]) := s5 _ _ (s4 _ _ (s3 _ _ hhd))
  have hT15 := s5 _ _ (s4 _ _ hT1)
  have hT25 := s5 _ _ hT2
  have fin : ∀ n ts p a xs H', WebOk n ts → Same H5 H' → H5 p = none → H5 a = none → H' p = some (.tup [.int n, .ref a]) → H' a = some (.lst xs) → Paired (Pr H') xs ts → Q (.ref p) H' :=
    fun n ts p a xs H' W e1 e2 e3 e4 e5 e6 => q n ts p a xs H' W (sA.trans e1) (sA.free e2) (sA.free e3) e4 e5 e6
  have go : ∀ b : Bool, ∃ T most more, atI [V.ref T1, V.ref T2] (if b then 1 else 0) = some (.ref T) ∧ H5 T = some (.tup [.int most, .int more]) ∧ t_law_any_web2 K (Fin Q) [some (.ref a), some (.int k), some (.int s), some (.int o), some (.ref hd), some (.int most), some (.int more), none, none, none, none, none] H5 := fun b => by
    cases b
    · exact ⟨T1, 12, 8, rfl, hT15, any_web2 (sA.seq ha) k0 hhd5 (by decide) (by decide) (by decide) (by decide) fin⟩
    · exact ⟨T2, 40, 81, rfl, hT25, any_web2 (sA.seq ha) k0 hhd5 (by decide) (by decide) (by decide) (by decide) fin⟩
  refine ⟨_, rfl, _, _, _, _, rfl, rfl, sql hhd5, atI_nat (j := 0) rfl, rfl, _, rfl, ?_⟩
  refine ite2 (fun _ => ?_) (fun _ => ?_)
  · refine ⟨_, rfl, _, _, rfl, rfl, by show (0 : Int) < 4; decide, rfl, .inr ⟨_, rfl, ?_⟩⟩
    obtain ⟨T, most, more, e1, e2, e3⟩ := go (decide (V.int (k % 4) = V.int 0))
    exact ⟨_, _, _, _, rfl, rfl, sql hl2, e1, T, _, rfl, sqt e2, rfl, _, _, rfl, _, _, rfl, rfl, e3⟩
  · refine .inr ⟨_, rfl, ?_⟩
    obtain ⟨T, most, more, e1, e2, e3⟩ := go false
    exact ⟨_, _, _, _, rfl, rfl, sql hl2, e1, T, _, rfl, sqt e2, rfl, _, _, rfl, _, _, rfl, rfl, e3⟩
end G39

/-! Neighbours as the law tells them; the law of ties told. -/
namespace G39
open PySem PySem.Spec PyProof.Rows L2
theorem tieOf_lt {t : Int × Int} (h : t.1 < t.2) : tieOf t.1 t.2 = t := by
  unfold tieOf
  rw [if_neg (by omega), if_pos (by omega)]
theorem mem_adj1 {t : Int × Int} {k x : Int} (h : t.1 < t.2) : x ∈ adj1 t k ↔ t = tieOf k x := by
  unfold adj1
  constructor
  · intro m
    rcases List.mem_append.mp m with m | m
    · by_cases e1 : t.1 = k
      · rw [if_pos e1] at m
        have e : x = t.2 := by simpa using m
        rw [e, ← e1, tieOf_lt h]
      · rw [if_neg e1] at m
        simp at m
    · by_cases e1 : t.2 = k
      · rw [if_pos e1] at m
        have e : x = t.1 := by simpa using m
        rw [e, ← e1, tieOf_comm, tieOf_lt h]
      · rw [if_neg e1] at m
        simp at m
  · intro e
    unfold tieOf at e
    have e1 : t.1 = if x < k then x else k := congrArg Prod.fst e
    have e2 : t.2 = if x > k then x else k := congrArg Prod.snd e
    by_cases c : x < k
    · rw [if_pos c] at e1
      rw [if_neg (by omega)] at e2
      refine List.mem_append.mpr (.inr ?_)
      rw [if_pos e2]
      simp [e1]
    · rw [if_neg c] at e1
      by_cases c2 : x > k
      · rw [if_pos c2] at e2
        refine List.mem_append.mpr (.inl ?_)
        rw [if_pos e1]
        simp [e2]
      · rw [if_neg c2] at e2
        omega
theorem mem_adj {n : Int} {ts : List (Int × Int)} (W : WebOk n ts) {k x : Int} : x ∈ adj ts k ↔ tieOf k x ∈ ts := by
  unfold adj
  rw [List.mem_flatMap]
  constructor
  · rintro ⟨t, ht, m⟩
    rw [← (mem_adj1 (W.good t ht).2.1).mp m]
    exact ht
  · intro m
    exact ⟨_, m, (mem_adj1 (W.good _ m).2.1).mpr rfl⟩
theorem adj1_nodup {t : Int × Int} {k : Int} (h : t.1 < t.2) : (adj1 t k).Nodup := by
  unfold adj1
  split <;> split
  · omega
  · simp
  · simp
  · simp
theorem adj_nodup {n : Int} {ts : List (Int × Int)} (W : WebOk n ts) (k : Int) : (adj ts k).Nodup := by
  unfold adj
  refine List.pairwise_flatMap.mpr ⟨fun t ht => adj1_nodup (W.good t ht).2.1, ?_⟩
  refine List.Pairwise.imp_of_mem (fun {a b} ha hb hlt x hx y hy e => ?_) W.ord
  subst e
  have e1 := (mem_adj1 (W.good a ha).2.1).mp hx
  have e2 := (mem_adj1 (W.good b hb).2.1).mp hy
  have e3 : a = b := e1.trans e2.symm
  subst e3
  unfold ltT at hlt
  omega
theorem lt_uniq : ∀ {l m : List Int}, l.Pairwise (· < ·) → m.Pairwise (· < ·) → (∀ x, x ∈ l ↔ x ∈ m) → l = m
  | [], [], _, _, _ => rfl
  | [], y :: m, _, _, h => absurd ((h y).mpr List.mem_cons_self) (by simp)
  | x :: l, [], _, _, h => absurd ((h x).mp List.mem_cons_self) (by simp)
  | x :: l, y :: m, hl, hm, h => by
    obtain ⟨hl1, hl2⟩ := List.pairwise_cons.mp hl
    obtain ⟨hm1, hm2⟩ := List.pairwise_cons.mp hm
    have e : x = y := by
      rcases List.mem_cons.mp ((h x).mp List.mem_cons_self) with e | hx
      · exact e
      · rcases List.mem_cons.mp ((h y).mpr List.mem_cons_self) with e | hy
        · exact e.symm
        · have := hl1 y hy
          have := hm1 x hx
          omega
    subst e
    rw [lt_uniq hl2 hm2 fun z => ?_]
    constructor
    · intro hz
      rcases List.mem_cons.mp ((h z).mp (List.mem_cons_of_mem _ hz)) with e | q
      · have := hl1 z hz
        omega
      · exact q
    · intro hz
      rcases List.mem_cons.mp ((h z).mpr (List.mem_cons_of_mem _ hz)) with e | q
      · have := hm1 z hz
        omega
      · exact q
theorem nbs_lt {n : Int} {ts : List (Int × Int)} (W : WebOk n ts) (k : Int) : (nbs ts k).Pairwise (· < ·) := by
  have so := ints_sorted (adj ts k)
  have nd : (nbs ts k).Nodup := (List.mergeSort_perm (adj ts k) _).nodup_iff.mpr (adj_nodup W k)
  refine List.pairwise_iff_getElem.mpr fun i j hi hj hij => ?_
  have a := List.pairwise_iff_getElem.mp so i j hi hj hij
  have b : (nbs ts k)[i] ≠ (nbs ts k)[j] := fun e => by
    have := (List.getElem_inj nd).mp e
    omega
  have a : (nbs ts k)[i] ≤ (nbs ts k)[j] := a
  omega
theorem mem_nbs {n : Int} {ts : List (Int × Int)} (W : WebOk n ts) {k x : Int} : x ∈ nbs ts k ↔ tieOf k x ∈ ts := by
  unfold nbs
  rw [(List.mergeSort_perm (adj ts k) _).mem_iff]
  exact mem_adj W
/-- the neighbours by a look at each place -/
def due (n : Int) (ts : List (Int × Int)) (k : Int) : List Int := ((List.range n.toNat).filter (fun i => decide (tieOf k ((i : Nat) : Int) ∈ ts))).map fun i => ((i : Nat) : Int)
theorem tieOf_mem {n : Int} {ts : List (Int × Int)} (W : WebOk n ts) {k x : Int} (h : tieOf k x ∈ ts) : 0 ≤ x ∧ x < n := by
  have g := W.good _ h
  unfold tieOf at g
  simp only at g
  split at g <;> split at g <;> omega
theorem nbs_due {n : Int} {ts : List (Int × Int)} (W : WebOk n ts) (k : Int) : nbs ts k = due n ts k := by
  refine lt_uniq (nbs_lt W k) ?_ fun x => ?_
  · unfold due
    refine List.pairwise_map.mpr (List.Pairwise.imp (fun {a b} h => by omega) (List.Pairwise.filter _ List.pairwise_lt_range))
  · rw [mem_nbs W]
    unfold due
    rw [List.mem_map]
    constructor
    · intro h
      have g := tieOf_mem W h
      refine ⟨x.toNat, List.mem_filter.mpr ⟨by rw [List.mem_range]; omega, ?_⟩, by omega⟩
      rw [show ((x.toNat : Nat) : Int) = x by omega]
      exact decide_eq_true h
    · rintro ⟨i, hi, rfl⟩
      exact of_decide_eq_true (List.mem_filter.mp hi).2
theorem nbs_len {n : Int} {ts : List (Int × Int)} (W : WebOk n ts) (k : Int) : (nbs ts k).length ≤ 40 := by
  rw [nbs_due W]
  unfold due
  rw [List.length_map]
  have := List.length_filter_le (fun i => decide (tieOf k ((i : Nat) : Int) ∈ ts)) (List.range n.toNat)
  rw [List.length_range] at this
  have := W.hi
  omega
/-! data of ints -/
theorem ints_dpAll {K : PySem.W.Frag} {H : Hp} : ∀ ns : List Int, DpAll K H (ns.map V.int) (ns.map PyData.int)
  | [] => .nil
  | n :: ns => .cons (.int n) (ints_dpAll ns)
theorem ints_dp {K : PySem.W.Frag} {H : Hp} {a : Addr} {ns : List Int} (h : SqL K H a (ns.map V.int)) : Dp K H (.ref a) (.list (ns.map PyData.int)) := .lst h (ints_dpAll ns)
theorem canLay_ints : ∀ ns : List Int, PyData.canLayAll0 (ns.map PyData.int) = true
  | [] => rfl
  | n :: ns => by
    show (PyData.canLay0 (.int n) && PyData.canLayAll0 (ns.map PyData.int)) = true
    rw [canLay_ints ns]
    rfl
theorem depth_ints : ∀ ns : List Int, PyData.depthAll (ns.map PyData.int) = 0
  | [] => by simp [PyData.depthAll]
  | n :: ns => by
    show max (PyData.depth (.int n)) (PyData.depthAll (ns.map PyData.int)) = 0
    rw [depth_ints ns]
    rfl
theorem shaped_ints (ns : List Int) : SeqAt.shaped (.list (ns.map PyData.int)) = true := by
  unfold SeqAt.shaped
  have h1 : PyData.canLay0 (.list (ns.map PyData.int)) = true := canLay_ints ns
  have h2 : PyData.depth (.list (ns.map PyData.int)) ≤ 64 := by
    have e : PyData.depth (.list (ns.map PyData.int)) = PyData.depthAll (ns.map PyData.int) + 1 := rfl
    rw [e, depth_ints]
    decide
  rw [h1, decide_eq_true h2]
  rfl
theorem eqvAll_ints : ∀ ns ms : List Int, PyData.eqvAll (ns.map PyData.int) (ms.map PyData.int) = decide (ns = ms)
  | [], [] => rfl
  | [], _ :: _ => rfl
  | _ :: _, [] => rfl
  | n :: ns, m :: ms => by
    show ((n == m) && PyData.eqvAll (ns.map PyData.int) (ms.map PyData.int)) = _
    rw [eqvAll_ints ns ms]
    by_cases h : n = m
    · subst h
      simp
    · simp [h]
theorem eqv_ints (ns ms : List Int) : PyData.eqv (.list (ns.map PyData.int)) (.list (ms.map PyData.int)) = decide (ns = ms) := eqvAll_ints ns ms
abbrev webD (n : Int) (ts : List (Int × Int)) : PyData := .tuple [.int n, .list (ts.map prD)]
theorem shaped_web (n : Int) (ts : List (Int × Int)) : SeqAt.shaped (webD n ts) = true := by
  unfold SeqAt.shaped
  have h1 : PyData.canLay0 (webD n ts) = true := by
    show (PyData.canLay0 (.int n) && (PyData.canLay0 (.list (ts.map prD)) && true)) = true
    rw [show PyData.canLay0 (.list (ts.map prD)) = true from canLay_prs ts]
    rfl
  have h2 : PyData.depth (webD n ts) ≤ 64 := by
    have := depth_prs ts
    have e : PyData.depth (webD n ts) = max 0 (max (PyData.depthAll (ts.map prD) + 1) 0) + 1 := rfl
    omega
  rw [h1, decide_eq_true h2]
  rfl
theorem eqvAll_prs : ∀ ts us : List (Int × Int), PyData.eqvAll (ts.map prD) (us.map prD) = decide (ts = us)
  | [], [] => rfl
  | [], _ :: _ => rfl
  | _ :: _, [] => rfl
  | t :: ts, u :: us => by
    show (PyData.eqv (prD t) (prD u) && PyData.eqvAll (ts.map prD) (us.map prD)) = _
    rw [eqvAll_prs ts us, eqv_pr]
    by_cases h : t = u
    · subst h
      simp
    · simp [h]
theorem eqv_web (n m : Int) (ts us : List (Int × Int)) : PyData.eqv (webD n ts) (webD m us) = decide (n = m ∧ ts = us) := by
  show ((n == m) && (PyData.eqvAll (ts.map prD) (us.map prD) && true)) = _
  rw [eqvAll_prs, Bool.and_true]
  by_cases h : n = m
  · subst h
    simp
  · simp [h]
/-! the law's own defs -/
def sp_law_whole (K : PySem.W.Frag) : Sp := fun vs H Q _ => ∃ i : Int, vs = [.int i] ∧ Q (.bl true) H
def t_law_whole (K : PySem.W.Frag) : TS := t_is_whole K
theorem pure_law_whole {K : PySem.W.Frag} {vs : List V} {H : Hp} {Q : VK} {E : XK} (h : sp_law_whole K vs H Q E) : t_law_whole K (Fin Q) (start ["_law_thing"] vs) H := by
  obtain ⟨i, rfl, q⟩ := h
  exact pure_is_whole (K := K) (E := E) ⟨i, rfl, q⟩
end G39

/-! Family B: the pool of numbers, what is taken of it, webs drawn by it. -/
namespace G39
open PySem PySem.Spec PyProof.Rows L2
/-- the heap without p -/
def gh (p : Addr) (H : Hp) : Hp := fun b => if b = p then none else H b
theorem gh_ne {p b : Addr} {H : Hp} (h : b ≠ p) : gh p H b = H b := if_neg h
theorem gh_of {p b : Addr} {H : Hp} {o : HO} (h : gh p H b = some o) : b ≠ p ∧ H b = some o := by
  unfold gh at h
  split at h
  · cases h
  · exact ⟨by assumption, h⟩
theorem gh_same {p : Addr} {H : Hp} : Same (gh p H) H := fun b o h => (gh_of h).2
theorem gh_upd {p : Addr} {H : Hp} {o : HO} : gh p (upd H p o) = gh p H := by
  funext b
  unfold gh
  split
  · rfl
  · rw [upd_ne (by assumption)]
theorem gh_mono {p : Addr} {H H' : Hp} (s : Same H H') : Same (gh p H) (gh p H') := fun b o h => by
  obtain ⟨h1, h2⟩ := gh_of h
  rw [gh_ne h1]
  exact s _ _ h2
/-- a list of two numbers -/
def Pool (H : Hp) (p : Addr) : Prop := ∃ g s, H p = some (.lst [.int g, .int s])
theorem Pool.mono {H H' : Hp} {p : Addr} (s : Same H H') (P : Pool H p) : Pool H' p := let ⟨g, t, e⟩ := P; ⟨g, t, s _ _ e⟩
theorem Pool.ne {H : Hp} {p q : Addr} (P : Pool H p) (n : H q = none) : q ≠ p := fun e => by
  obtain ⟨g, s, h⟩ := P
  rw [← e, n] at h
  cases h
theorem gh_free {p q : Addr} {H H' : Hp} (s : Same (gh p H) (gh p H')) (P : Pool H' p) (n : H' q = none) : H q = none := by
  have ne := P.ne n
  have : gh p H' q = none := by rw [gh_ne ne]; exact n
  have := s.free this
  rw [gh_ne ne] at this
  exact this
theorem gh_new {p q : Addr} {H H' : Hp} (n : H q = none) : gh p H q = none := by
  unfold gh
  split
  · rfl
  · exact n
/-- what is new in H may change, and the pool -/
theorem gh_mut {p q : Addr} {H H' : Hp} {o : HO} (s : Same (gh p H) (gh p H')) (n : H q = none) : Same (gh p H) (gh p (upd H' q o)) := fun b x h => by
  obtain ⟨h1, h2⟩ := gh_of h
  rw [gh_ne h1, upd_ne (ne_of_none h2 n)]
  exact (gh_of (s _ _ h)).2
theorem gh_pool {p : Addr} {H H' : Hp} {o : HO} (s : Same (gh p H) (gh p H')) : Same (gh p H) (gh p (upd H' p o)) := by
  rw [gh_upd]
  exact s
theorem gh_then {p : Addr} {H H' H2 : Hp} (s : Same (gh p H) (gh p H')) (t : Same H' H2) : Same (gh p H) (gh p H2) := s.trans (gh_mono t)
def sp_bpool (K : PySem.W.Frag) : Sp := fun vs H Q _ => ∃ (a : Addr) (ns : List Int) (k : Int), vs = [.ref a, .int k] ∧ SqL K H a (ns.map V.int) ∧ 0 ≤ k ∧ k ≤ 10000 ∧ ∀ p H', H p = none → Same H H' → Pool H' p → Q (.ref p) H'
def t_bpool2 (K : PySem.W.Frag) : TS := (tSeq (tAsg (tOp rMod (tOp rAdd (tOp rAdd (tOp rAdd (tCB rMax2 (tCons (tVar 2) (tCons (tOp rSub (tUn rNeg (tC (.int 1))) (tVar 2)) tNil))) (tOp rMul (tOp rMul (tC (.int 7919)) (tVar 1)) (tVar 1))) (tOp rMul (tC (.int 104729)) (tVar 1))) (tC (.int 17))) (tC (.int 2147483629))) (gName 3))
    (tSeq (tAsg (tC (.int 0)) (gName 4))
    (tSeq (tIfS (tTest (tOp rGe (tVar 2) (tOp rPow (tC (.int 10)) (tC (.int 18))))) (tAsg (tVar 2) (gName 4)) tNext)
    (tRet (tLstG (tCons (tVar 4) (tCons (tOp rMod (tOp rMul (tVar 3) (tC (.int 48271))) (tC (.int 2147483647))) tNil)))))))
def t_bpool (K : PySem.W.Frag) : TS := (tSeq (tAsg (tC (.int 0)) (gName 2))
    (tSeq (tIfS (tTest (tOp rLt (tVar 1) (tCB (rLenSq K) (tCons (tVar 0) tNil)))) (tAsg (tOp (rIxL K) (tVar 0) (tVar 1)) (gName 2)) tNext)
    (t_bpool2 K)))
theorem pure_bpool {K : PySem.W.Frag} {vs : List V} {H : Hp} {Q : VK} {E : XK} (h : sp_bpool K vs H Q E) : t_bpool K (Fin Q) (start ["_law_script", "_law_k", "_law_cell", "_law_number", "_law_great"] vs) H := by
  obtain ⟨a, ns, k, rfl, ha, k0, k1, q⟩ := h
  have hsz : sizeLine = 16777216 := sizeLine_eq
  have go : ∀ c : Int, t_bpool2 K (Fin Q) [some (.ref a), some (.int k), some (.int c), none, none] H := fun c => by
    refine ⟨_, rfl, _, rfl, _, rfl, _, _, rfl, rfl, _, _, rfl, _, rfl, _, _, rfl, rfl, .inl ⟨by decide, by decide⟩, _, rfl, _, _, rfl, rfl, .inr ⟨by omega, by omega⟩, _, _, rfl, rfl, _, rfl, _, _, rfl, rfl, .inl ⟨by decide, by decide⟩, _, _, rfl, rfl, _, _, rfl, rfl, _, _, rfl, rfl, m29, ?_⟩
    have fin : ∀ g z : Int, (tRet (tLstG (tCons (tVar 4) (tCons (tOp rMod (tOp rMul (tVar 3) (tC (.int 48271))) (tC (.int 2147483647))) tNil)))) (Fin Q) [some (.ref a), some (.int k), some (.int c), some (.int z), some (.int g)] H := fun g z =>
      ⟨_, rfl, _, rfl, _, _, rfl, rfl, .inr ⟨by decide, by decide⟩, _, _, rfl, rfl, m31, by show 2 ≤ sizeLine; omega, fun p H1 np s1 hp => q p H1 np s1 ⟨_, _, hp⟩⟩
    refine ⟨_, rfl, _, _, rfl, rfl, ⟨by decide, by decide, by decide⟩, _, _, rfl, rfl, _, rfl, ite2 (fun _ => ?_) (fun _ => ?_)⟩
    · exact ⟨_, rfl, fin _ _⟩
    · exact fin _ _
  refine ⟨_, rfl, _, rfl, _, _, rfl, .inl ha, _, _, rfl, rfl, _, rfl, ite2 (fun c => ?_) (fun c => ?_)⟩
  · have c : k < ns.length := by
      rw [List.length_map] at c
      simpa using c
    obtain ⟨z, _, az⟩ := ints_at (ns := ns) k0 c
    exact ⟨_, rfl, _, rfl, _, _, _, _, rfl, rfl, ha, az, go z⟩
  · exact go 0
def sp_btake (K : PySem.W.Frag) : Sp := fun vs H Q _ => ∃ (p : Addr) (m : Int), vs = [.ref p, .int m] ∧ Pool H p ∧ 0 < m ∧ m < 1073741824 ∧ ∀ r o, 0 ≤ r → r < m → Pool (upd H p o) p → Q (.int r) (upd H p o)
def t_btake (K : PySem.W.Frag) : TS := (tSeq (tIfS (tTest (tOp rGt (tOp (rIxL K) (tVar 0) (tC (.int 0))) (tC (.int 0)))) (tSeq (tAsg (tOp rMod (tOp (rIxL K) (tVar 0) (tC (.int 0))) (tVar 1)) (gName 2))
    (tSeq (tAsg (tOp rDiv (tOp (rIxL K) (tVar 0) (tC (.int 0))) (tVar 1)) (gSub (tVar 0) (tC (.int 0)) rSetL))
    (tRet (tVar 2)))) tNext)
    (tSeq (tAsg (tOp rMod (tOp rAdd (tOp rMul (tOp (rIxL K) (tVar 0) (tC (.int 1))) (tC (.int 48271))) (tC (.int 11))) (tC (.int 2147483647))) (gSub (tVar 0) (tC (.int 1)) rSetL))
    (tRet (tOp rMod (tOp rDiv (tOp rMod (tOp rMul (tOp (rIxL K) (tVar 0) (tC (.int 1))) (tOp (rIxL K) (tVar 0) (tC (.int 1)))) (tC (.int 2147483629))) (tC (.int 16))) (tVar 1)))))
theorem pure_btake {K : PySem.W.Frag} {vs : List V} {H : Hp} {Q : VK} {E : XK} (h : sp_btake K vs H Q E) : t_btake K (Fin Q) (start ["_law_pool_here", "_law_many", "_law_found"] vs) H := by
  obtain ⟨p, m, rfl, ⟨g, s, hp⟩, m0, m1, q⟩ := h
  refine ⟨_, rfl, _, _, _, _, rfl, rfl, sql hp, atI_nat (j := 0) rfl, _, _, rfl, rfl, _, rfl, ite2 (fun c => ?_) (fun c => ?_)⟩
  · refine ⟨_, rfl, _, _, _, _, rfl, rfl, sql hp, atI_nat (j := 0) rfl, _, rfl, _, _, rfl, rfl, by show 0 < m; omega, ?_⟩
    refine ⟨_, rfl, _, _, _, _, rfl, rfl, sql hp, atI_nat (j := 0) rfl, _, rfl, _, _, rfl, rfl, ⟨by show 0 < m; omega, by show m < 1073741824; omega⟩, _, rfl, p, _, 0, 0, rfl, rfl, hp, rfl, ?_⟩
    exact ⟨_, rfl, q _ _ (Int.emod_nonneg _ (by omega)) (Int.emod_lt_of_pos _ (by omega)) ⟨_, _, upd_same⟩⟩
  · refine ⟨_, rfl, _, _, _, _, rfl, rfl, sql hp, atI_nat (j := 1) rfl, _, _, rfl, rfl, .inr ⟨by decide, by decide⟩, _, _, rfl, rfl, _, _, rfl, rfl, m31, _, rfl, p, _, 1, 1, rfl, rfl, hp, rfl, ?_⟩
    have z0 : 0 ≤ (s * 48271 + 11) % 2147483647 := Int.emod_nonneg _ (by decide)
    have z1 : (s * 48271 + 11) % 2147483647 < 2147483647 := Int.emod_lt_of_pos _ (by decide)
    refine ⟨_, rfl, _, _, _, _, rfl, rfl, sql upd_same, atI_nat (j := 1) rfl, _, rfl, _, _, _, _, rfl, rfl, sql upd_same, atI_nat (j := 1) rfl, _, _, rfl, rfl, .inl ⟨by omega, by omega⟩, _, _, rfl, rfl, m29, _, _, rfl, rfl, ⟨by decide, by decide⟩, _, rfl, _, _, rfl, rfl, by show 0 < m; omega, ?_⟩
    exact q _ _ (Int.emod_nonneg _ (by omega)) (Int.emod_lt_of_pos _ (by omega)) ⟨_, _, upd_same⟩
/-- names taken one by one -/
def PvS (p nm D : Addr) (H0 : Hp) (n : Int) (i : Nat) (H2 : Hp) : Prop := ∃ nms os : List Int, Pool H2 p ∧ Same (gh p H0) (gh p H2) ∧ H2 nm = some (.lst (nms.map V.int)) ∧ H2 D = some (.lst (os.map V.int)) ∧ nms.length + i = n.toNat ∧ os.length = i ∧ (os ++ nms).Perm ((List.range n.toNat).map (fun k => ((k : Nat) : Int)))
theorem shuf_step {K : PySem.W.Frag} {p nm D : Addr} {H0 H2 : Hp} {n : Int} {i : Nat} {σ : L2.St} {a b : Nat} {E : XK} (P0 : Pool H0 p) (n0 : H0 nm = none) (nD : H0 D = none) (ne : nm ≠ D) (hn : n ≤ 40) (hi : i < n.toNat) (P : PvS p nm D H0 n i H2) (ea : σ[a]? = some (some (.ref nm))) (eb : σ[b]? = some (some (.ref p))) :
    tBM K "list" rPopAt (tVar a) (tCons (tCall (sp_btake K) [] E (tCons (tVar b) (tCons (tCB (rLenSq K) (tCons (tVar a) tNil)) tNil))) tNil) σ H2 fun y H4 => ∃ acc, H4 D = some (.lst acc) ∧ acc.length < sizeLine ∧ PvS p nm D H0 n (i + 1) (upd H4 D (.lst (acc ++ [y]))) := by
  have hsz : sizeLine = 16777216 := sizeLine_eq
  obtain ⟨nms, os, PP, s2, hn2, hD2, el, eo, pm⟩ := P
  have npm : nm ≠ p := P0.ne n0
  have nDp : D ≠ p := P0.ne nD
  refine ⟨_, ea, tyl hn2, _, eb, _, ea, nm, _, rfl, .inl (sql hn2), p, _, rfl, PP, ?_, ?_, fun r o r0 r1 P3 => ?_⟩
  · rw [List.length_map]
    omega
  · rw [List.length_map]
    omega
  rw [List.length_map] at r1
  have hn3 : (upd H2 p o) nm = some (.lst (nms.map V.int)) := by rw [upd_ne npm]; exact hn2
  obtain ⟨y, gy⟩ := getn (l := nms) (i := r.toNat) (by omega)
  refine ⟨nm, _, r, r.toNat, _, rfl, rfl, hn3, by omega, by omega, ?_, map_int_get gy, os.map V.int, ?_, by rw [List.length_map]; omega, nms.eraseIdx r.toNat, os ++ [y], ?_, ?_, ?_, app_int, ?_, ?_, ?_⟩
  · rw [List.length_map]
    exact (ixN_seq (n := nms.length) (i := r) (by unfold ixN; rw [if_pos (by omega), if_pos (by omega)])).1
  · rw [upd_ne ne.symm, upd_ne nDp]
    exact hD2
  · obtain ⟨g, z, e⟩ := P3
    exact ⟨g, z, by rw [upd_ne nDp.symm, upd_ne npm.symm]; exact e⟩
  · exact gh_mut (gh_mut (gh_pool s2) n0) nD
  · rw [upd_ne ne, upd_same, map_erase]
  · have := List.length_eraseIdx_of_lt (l := nms) (i := r.toNat) (by omega)
    omega
  · rw [List.length_append]
    show os.length + 1 = i + 1
    omega
  · obtain ⟨hlt, ey⟩ := List.getElem?_eq_some_iff.mp gy
    have p2 := erase_perm hlt
    rw [ey] at p2
    rw [List.append_assoc]
    exact (List.Perm.append_left os p2).trans pm
theorem PvS.done {p nm D : Addr} {H0 H2 : Hp} {n : Int} (P : PvS p nm D H0 n n.toNat H2) : ∃ os : List Int, Pool H2 p ∧ Same (gh p H0) (gh p H2) ∧ H2 D = some (.lst (os.map V.int)) ∧ OrdOk n os ∧ os.Perm ((List.range n.toNat).map (fun k => ((k : Nat) : Int))) := by
  obtain ⟨nms, os, PP, s2, hn2, hD2, el, eo, pm⟩ := P
  have enm : nms = [] := List.length_eq_zero_iff.mp (by omega)
  subst enm
  rw [List.append_nil] at pm
  refine ⟨os, PP, s2, hD2, ⟨eo, pm.nodup_iff.mpr (range_ints_nd _), fun x hx => ?_⟩, pm⟩
  obtain ⟨k, hk, rfl⟩ := List.mem_map.mp (pm.mem_iff.mp hx)
  rw [List.mem_range] at hk
  omega
def sp_bshuf (K : PySem.W.Frag) : Sp := fun vs H Q _ => ∃ (p : Addr) (n : Int), vs = [.ref p, .int n] ∧ Pool H p ∧ 1 ≤ n ∧ n ≤ 40 ∧ ∀ d H' os, H d = none → Pool H' p → Same (gh p H) (gh p H') → H' d = some (.lst (os.map V.int)) → OrdOk n os → os.Perm ((List.range n.toNat).map (fun k => ((k : Nat) : Int))) → Q (.ref d) H'
def t_bshuf (K : PySem.W.Frag) : TS := (tSeq (tAsg (tLstRgG (tRg1 (tVar 1))) (gName 2))
    (tRet (tLc (iRng1 (tCons (tVar 1) tNil)) (gName 3) tYes (tBM K "list" rPopAt (tVar 2) (tCons (tCall (sp_btake K) [] E0 (tCons (tVar 0) (tCons (tCB (rLenSq K) (tCons (tVar 2) tNil)) tNil))) tNil)) [3])))
theorem pure_bshuf {K : PySem.W.Frag} {vs : List V} {H : Hp} {Q : VK} {E : XK} (h : sp_bshuf K vs H Q E) : t_bshuf K (Fin Q) (start ["_law_pool_here", "_law_many", "_law_names", "_law_k"] vs) H := by
  obtain ⟨p, n, rfl, P0, n1, n2, q⟩ := h
  have hsz : sizeLine = 16777216 := sizeLine_eq
  refine ⟨_, rfl, n, rfl, RgOk.of_le (by omega) (by omega) (by omega) (by omega), fun nm H1 nnm s1 hnm => ?_⟩
  refine ⟨_, rfl, n, rfl, by omega, by omega, fun D nD => ?_⟩
  have nD0 : H D = none := s1.free nD
  have ne : nm ≠ D := fun e => by
    rw [e, nD] at hnm
    cases hnm
  refine lc_it walk_rng0 (PvS p nm D H n) ⟨_, [], P0.mono (s1.trans (same_new nD)), gh_mut (gh_mono s1) nD0, (by rw [upd_ne ne, ← rgV_ints]; exact hnm), upd_same, by simp, rfl, by simp⟩ (fun _ _ _ _ => trivial) (fun i x H2 H3 hi P y => ?_) (fun H2 P => ?_)
  · obtain ⟨rfl, rfl⟩ := y
    exact ⟨rfl, shuf_step P0 nnm nD0 ne n2 hi P rfl rfl⟩
  · obtain ⟨os, PP, s2, hD2, OO, pm⟩ := P.done
    exact q D H2 os nD0 PP s2 hD2 OO pm
end G39

/-! Family B: webs drawn by the pool. -/
namespace G39
open PySem PySem.Spec PyProof.Rows L2
theorem Pr.updO {H : Hp} {D : Addr} {zs : List V} {o : HO} (hD : H D = some (.lst zs)) {x : V} {t : Int × Int} (h : Pr H x t) : Pr (upd H D o) x t := by
  obtain ⟨b, rfl, hb⟩ := h
  have ne : b ≠ D := fun e => by
    rw [e, hD] at hb
    cases hb
  exact ⟨b, rfl, by rw [upd_ne ne]; exact hb⟩
theorem Prs.updO {H : Hp} {D : Addr} {zs : List V} {o : HO} (hD : H D = some (.lst zs)) {xs : List V} {ts : List (Int × Int)} (h : Paired (Pr H) xs ts) : Paired (Pr (L2.upd H D o)) xs ts := Paired.mapP h fun _ _ => Pr.updO hD
/-- pairs gathered at D, beside a pool -/
structure PW (p D : Addr) (H0 H : Hp) (xs : List V) (ps : List (Int × Int)) : Prop where
  pool : Pool H p
  sm : Same (gh p H0) (gh p H)
  at_ : H D = some (.lst xs)
  prs : Paired (Pr H) xs ps
theorem PW.take {p D : Addr} {H0 H : Hp} {xs : List V} {ps : List (Int × Int)} {o : HO} (h : PW p D H0 H xs ps) (ne : D ≠ p) (P : Pool (upd H p o) p) : PW p D H0 (upd H p o) xs ps := by
  obtain ⟨⟨g, s, e⟩, h2, h3, h4⟩ := h
  exact ⟨P, gh_pool h2, by rw [upd_ne ne]; exact h3, Prs.updO e h4⟩
theorem PW.app {p D T : Addr} {H0 H H4 : Hp} {xs : List V} {ps : List (Int × Int)} {a b : Int} (h : PW p D H0 H xs ps) (nD : H0 D = none) (ne : D ≠ p) (s : Same H H4) (hT : H4 T = some (.tup [.int a, .int b])) : PW p D H0 (upd H4 D (.lst (xs ++ [.ref T]))) (xs ++ [.ref T]) (ps ++ [(a, b)]) := by
  obtain ⟨h1, h2, h3, h4⟩ := h
  obtain ⟨g, z, e⟩ := h1.mono s
  exact ⟨⟨g, z, by rw [upd_ne ne.symm]; exact e⟩, gh_mut (gh_then h2 s) nD, upd_same, Prs.updO (s _ _ h3) (Paired.snoc (y := (a, b)) (Prs.mono s h4) ⟨T, rfl, hT⟩)⟩
def sp_bweb (K : PySem.W.Frag) : Sp := fun vs H Q _ => ∃ (p : Addr) (most more : Int), vs = [.ref p, .int most, .int more] ∧ Pool H p ∧ 1 ≤ most ∧ most ≤ 40 ∧ 0 ≤ more ∧ most - 1 + more ≤ 120 ∧
  ∀ (n : Int) (ts : List (Int × Int)) (w a : Addr) (xs : List V) (H' : Hp), WebOk n ts → n ≤ most → Conn n ts → Pool H' p → Same (gh p H) (gh p H') → H w = none → H a = none → H' w = some (.tup [.int n, .ref a]) → H' a = some (.lst xs) → Paired (Pr H') xs ts → Q (.ref w) H'
def t_bweb (K : PySem.W.Frag) : TS := (tSeq (tAsg (tOp rAdd (tC (.int 1)) (tCall (sp_btake K) [] E0 (tCons (tVar 0) (tCons (tVar 1) tNil)))) (gName 3))
    (tSeq (tAsg (tLstRgG (tRg1 (tVar 3))) (gName 4))
    (tSeq (tAsg (tLc (iRng1 (tCons (tVar 3) tNil)) (gName 6) tYes (tBM K "list" rPopAt (tVar 4) (tCons (tCall (sp_btake K) [] E0 (tCons (tVar 0) (tCons (tCB (rLenSq K) (tCons (tVar 4) tNil)) tNil))) tNil)) [6]) (gName 5))
    (tSeq (tAsg (tLc (iRng2 (tCons (tC (.int 1)) (tCons (tVar 3) tNil))) (gName 6) tYes (tTupG (tCons (tVar 6) (tCons (tCall (sp_btake K) [] E0 (tCons (tVar 0) (tCons (tVar 6) tNil))) tNil))) [6]) (gName 7))
    (tSeq (tFor (iRng1 (tCons (tCall (sp_btake K) [] E0 (tCons (tVar 0) (tCons (tOp rAdd (tVar 2) (tC (.int 1))) tNil))) tNil)) (gName 6) (tDrop (tBM K "list" rAppend (tVar 7) (tCons (tTupG (tCons (tCall (sp_btake K) [] E0 (tCons (tVar 0) (tCons (tVar 3) tNil))) (tCons (tCall (sp_btake K) [] E0 (tCons (tVar 0) (tCons (tVar 3) tNil))) tNil))) tNil))))
    (tSeq (tAsg tDNewTG (gName 8))
    (tSeq (tFor (iList K (tVar 7)) (gTup K 2 (gCons (gName 9) (gCons (gName 10) gNil))) (tIfS (tTest (tOp rNe (tVar 9) (tVar 10))) (sDPut (tVar 8) (tTupG (tCons (tCB rMin2 (tCons (tOp (rIxL K) (tVar 5) (tVar 9)) (tCons (tOp (rIxL K) (tVar 5) (tVar 10)) tNil))) (tCons (tCB rMax2 (tCons (tOp (rIxL K) (tVar 5) (tVar 9)) (tCons (tOp (rIxL K) (tVar 5) (tVar 10)) tNil))) tNil))) (tC (.bl true))) tNext))
    (tRet (tTupG (tCons (tVar 3) (tCons (tCB rSortedDT (tCons (tVar 8) tNil)) tNil)))))))))))
theorem pure_bweb {K : PySem.W.Frag} {vs : List V} {H : Hp} {Q : VK} {E : XK} (h : sp_bweb K vs H Q E) : t_bweb K (Fin Q) (start ["_law_pool_here", "_law_most", "_law_more", "_law_many", "_law_names", "_law_order", "_law_k", "_law_pairs", "_law_ties", "_law_one", "_law_other"] vs) H := by
  obtain ⟨p, most, more, rfl, P0, m1, m2, m3, m4, q⟩ := h
  have hsz : sizeLine = 16777216 := sizeLine_eq
  -- many
  refine ⟨_, rfl, _, rfl, p, most, rfl, P0, by omega, by omega, fun e0 o g1 g2 P1 => ⟨_, _, rfl, rfl, ?_⟩⟩
  obtain ⟨H1, hH1⟩ : ∃ H1, H1 = upd H p o := ⟨_, rfl⟩
  rw [← hH1] at P1 ⊢
  have sA0 : Same (gh p H) (gh p H1) := by rw [hH1, gh_upd]; exact Same.refl _
  obtain ⟨n, hn⟩ : ∃ n : Int, n = 1 + e0 := ⟨_, rfl⟩
  show tSeq _ _ _ (List.set _ 3 (some (V.int (1 + e0)))) H1
  rw [← hn]
  have n1 : 1 ≤ n := by omega
  have n2 : n ≤ most := by omega
  clear hn hH1
  -- names, order
  refine ⟨_, rfl, n, rfl, RgOk.of_le (by omega) (by omega) (by omega) (by omega), fun nm H2 nnm s2 hnm => ?_⟩
  refine ⟨_, rfl, n, rfl, by omega, by omega, fun od nod => ?_⟩
  have nod1 : H1 od = none := s2.free nod
  have nodp : od ≠ p := P1.ne nod1
  have nenm : nm ≠ od := fun e => by
    rw [e, nod] at hnm
    cases hnm
  refine lc_it walk_rng0 (PvS p nm od H1 n) ⟨_, [], P1.mono (s2.trans (same_new nod)), gh_mut (gh_mono s2) nod1, (by rw [upd_ne nenm, ← rgV_ints]; exact hnm), upd_same, by simp, rfl, by simp⟩ (fun _ _ _ _ => trivial) (fun i x H3 H4 hi P y => ?_) (fun H14 P => ?_)
  · obtain ⟨rfl, rfl⟩ := y
    exact ⟨rfl, shuf_step P1 nnm nod1 nenm (by omega) hi P rfl rfl⟩
  obtain ⟨os, P14, t14, hod14, OO, pm⟩ := P.done
  have sA := sA0
  -- pairs
  refine ⟨_, rfl, 1, n, rfl, ⟨by omega, by omega, by omega, by omega⟩, fun pr npr => ?_⟩
  have nprp : pr ≠ p := P14.ne npr
  refine lc_it (walk_range (lo := 1)) (fun i H2 => ∃ xs ps, PW p pr H14 H2 xs ps ∧ ps.length = i ∧ ∀ k : Nat, k < i → ∃ d : Int, ps[k]? = some ((k : Int) + 1, d) ∧ 0 ≤ d ∧ d < (k : Int) + 1)
    ⟨[], [], ⟨P14.mono (same_new npr), gh_mono (same_new npr), upd_same, .nil⟩, rfl, fun k hk => by omega⟩ (fun _ _ _ _ => trivial) (fun i x H2 H3 hi P y => ?_) (fun H15 P => ?_)
  · obtain ⟨rfl, rfl⟩ := y
    obtain ⟨xs, ps, PWh, hl, hk⟩ := P
    have hxl := Paired.length PWh.prs
    refine ⟨rfl, _, rfl, _, rfl, _, rfl, p, _, rfl, PWh.pool, by omega, by omega, fun r o r0 r1 P3 => ⟨by show 2 ≤ sizeLine; omega, fun T H4 nT s4 hT => ?_⟩⟩
    have W3 := PWh.take nprp P3
    refine ⟨xs, s4 _ _ W3.at_, by omega, _, _, W3.app npr nprp s4 hT, by simp; omega, fun k hk' => ?_⟩
    by_cases e : k < i
    · obtain ⟨d, e1, e2, e3⟩ := hk k e
      exact ⟨d, by rw [List.getElem?_append_left (by omega)]; exact e1, e2, e3⟩
    · have e : k = i := by omega
      subst e
      refine ⟨r, ?_, r0, by omega⟩
      rw [List.getElem?_append_right (by omega), hl, Nat.sub_self, Int.add_comm]
      rfl
  obtain ⟨xs1, ps1, PW1, hps1l, hps1k⟩ := P
  have hps1k : ∀ k : Nat, (k : Int) < n - 1 → ∃ d : Int, ps1[k]? = some ((k : Int) + 1, d) ∧ 0 ≤ d ∧ d < (k : Int) + 1 := fun k hk => hps1k k (by omega)
  have hps1 : ∀ t ∈ ps1, (0 ≤ t.1 ∧ t.1 < n) ∧ 0 ≤ t.2 ∧ t.2 < n := fun t ht => by
    obtain ⟨k, hk, e⟩ := List.mem_iff_getElem.mp ht
    obtain ⟨d, e1, e2, e3⟩ := hps1k k (by omega)
    rw [List.getElem?_eq_getElem hk] at e1
    have e1 := Option.some.inj e1
    rw [← e, e1]
    simp only
    omega
  -- more pairs
  refine ⟨_, rfl, _, rfl, _, _, rfl, rfl, p, _, rfl, PW1.pool, by omega, by omega, fun r o r0 r1 P3 => ?_⟩
  refine ⟨r, rfl, by omega, by omega, ?_⟩
  refine for_range (lo := 0) (n := r.toNat) (fun i σ H2 => ∃ (xs : List V) (ps : List (Int × Int)) (v6 : Option V), σ = [some (.ref p), some (.int most), some (.int more), some (.int n), some (.ref nm), some (.ref od), v6, some (.ref pr), none, none, none] ∧
      PW p pr H14 H2 xs ps ∧ ps.length ≤ (n - 1).toNat + i ∧ (∀ t ∈ ps, (0 ≤ t.1 ∧ t.1 < n) ∧ 0 ≤ t.2 ∧ t.2 < n) ∧ ∀ (k : Nat) t, ps1[k]? = some t → ps[k]? = some t)
    ⟨xs1, ps1, _, rfl, PW1.take nprp P3, by omega, hps1, fun _ _ e => e⟩ ?_ ?_
  · rintro i σ H2 hi ⟨xs, ps, v6, rfl, PWh, hpl, hpg, hpk⟩
    have hxl := Paired.length PWh.prs
    refine ⟨_, rfl, tyl PWh.at_, _, rfl, _, rfl, p, n, rfl, PWh.pool, by omega, by omega, fun a o a0 a1 Pa => ?_⟩
    have Wa := PWh.take nprp Pa
    refine ⟨_, rfl, _, rfl, p, n, rfl, Wa.pool, by omega, by omega, fun b o2 b0 b1 Pb => ?_⟩
    have Wb := Wa.take nprp Pb
    refine ⟨by show 2 ≤ sizeLine; omega, fun T H4 nT s4 hT => ?_⟩
    refine ⟨pr, _, _, rfl, rfl, s4 _ _ Wb.at_, by omega, _, _, _, rfl, Wb.app npr nprp s4 hT, by simp; omega, fun t ht => ?_, fun k t e => ?_⟩
    · rcases List.mem_append.mp ht with ht | ht
      · exact hpg t ht
      · have e3 : t = (a, b) := by simpa using ht
        subst e3
        exact ⟨⟨a0, a1⟩, b0, b1⟩
    · rw [List.getElem?_append_left (List.getElem?_eq_some_iff.mp (hpk k t e)).1]
      exact hpk k t e
  rintro σ H17 ⟨xs, ps, v6, rfl, ⟨PP17, t17, hpr17, hP17⟩, hpl, hpg, hpk⟩
  have hod17 : H17 od = some (.lst (os.map V.int)) := (gh_of (t17 _ _ (by rw [gh_ne nodp]; exact hod14))).2
  -- the ties
  refine fun ti H18 nti s18 hti => ?_
  have hpr18 := s18 _ _ hpr17
  refine ⟨_, rfl, pr, rfl, ⟨_, sql hpr18⟩, ?_⟩
  refine for_list (K := K) (a := pr) (xs := xs) (fun i σ H2 => ∃ (ts : List (Int × Int)) (v13 v14 : Option V), σ = [some (.ref p), some (.int most), some (.int more), some (.int n), some (.ref nm), some (.ref od), v6, some (.ref pr), some (.ref ti), v13, v14] ∧
      Same H17 H2 ∧ H2 ti = some (.dT (tdict ts)) ∧ TOk n ts ∧ ts.length ≤ i ∧ ∀ (j : Nat) t, j < i → ps[j]? = some t → t.1 ≠ t.2 → ∀ x y, os[t.1.toNat]? = some x → os[t.2.toNat]? = some y → tieOf x y ∈ ts)
    ⟨[], none, none, rfl, s18, hti, ⟨List.nodup_nil, fun t ht => by simp at ht⟩, Nat.le_refl _, fun j t hj => absurd hj (by omega)⟩ (fun i σ H2 _ ⟨_, _, _, _, t2, _⟩ => sql (t2 _ _ hpr17)) ?_ ?_
  · rintro i x σ H2 hi ⟨ts, v13, v14, rfl, t2, hti2, hT, hTl, hTk⟩
    obtain ⟨t, ht, b, rfl, hb⟩ := paired_get hP17 hi
    obtain ⟨⟨g1, g2⟩, g3, g4⟩ := hpg t (List.mem_of_getElem? ht)
    have hil : i < xs.length := (List.getElem?_eq_some_iff.mp hi).1
    have hxl := Paired.length hP17
    refine ⟨b, _, rfl, sqt (t2 _ _ hb), rfl, _, _, rfl, _, _, rfl, rfl, ?_⟩
    refine ⟨_, rfl, _, rfl, rfl, _, rfl, ?_⟩
    by_cases e : t.1 = t.2
    · refine iteNS (congrArg V.int e) ?_
      refine ⟨ts, _, _, rfl, t2, hti2, hT, by omega, fun j u hj hu ne x y hx hy => ?_⟩
      by_cases ej : j = i
      · subst ej
        rw [ht] at hu
        have e2 := Option.some.inj hu
        subst e2
        exact absurd e ne
      · exact hTk j u (by omega) hu ne x y hx hy
    · rw [decide_eq_false (show ¬ V.int t.1 = V.int t.2 from fun q => e (V.int.inj q))]
      obtain ⟨x1, y1, y2, y3⟩ := OO.get g1 g2
      obtain ⟨x2, z1, z2, z3⟩ := OO.get g3 g4
      have hod2 := t2 _ _ hod17
      have ne : x1 ≠ x2 := fun q => by
        subst q
        have := nd_ix OO.nd y1 z1
        omega
      refine iteT ⟨_, rfl, _, rfl, _, rfl, _, _, _, _, rfl, rfl, sql hod2, y2, _, rfl, _, rfl, _, _, _, _, rfl, rfl, sql hod2, z2, _, _, rfl, _, rfl, _, rfl, _, _, _, _, rfl, rfl, sql hod2, y2, _, rfl, _, rfl, _, _, _, _, rfl, rfl, sql hod2, z2, _, _, rfl, by show 2 ≤ sizeLine; omega, fun T H3 nT s3 hT3 => ?_⟩
      have hti3 := s3 _ _ hti2
      refine ⟨ti, _, rfl, DPut.t (k := keyT (tieOf x1 x2)) hti3 hT3 ?_, ?_⟩
      · unfold tdict
        rw [List.length_map]
        omega
      · rw [put_tdict]
        have := insT_len ts (tieOf x1 x2)
        refine ⟨_, _, _, rfl, same_mut (t2.trans s3) nti, upd_same, hT.ins (tieOf_ok y3 z3 ne), by omega, fun j u hj hu ne' x y hx hy => ?_⟩
        by_cases ej : j = i
        · subst ej
          rw [ht] at hu
          have e2 := Option.some.inj hu
          subst e2
          rw [y1] at hx
          rw [z1] at hy
          have e3 := Option.some.inj hx
          have e4 := Option.some.inj hy
          subst e3
          subst e4
          unfold insT
          split
          · assumption
          · exact List.mem_append.mpr (.inr (by simp))
        · have := hTk j u (by omega) hu ne' x y hx hy
          unfold insT
          split
          · exact this
          · exact List.mem_append.mpr (.inl this)
  rintro σ H19 ⟨ts, v13, v14, rfl, t19, hti19, hT, hTl, hTk⟩
  have hxl := Paired.length hP17
  refine ⟨_, rfl, _, rfl, ti, ts, rfl, hti19, fun a H20 zs na s20 ha hz => ?_⟩
  refine ⟨by show 2 ≤ sizeLine; omega, fun w H21 nw s21 hw => ?_⟩
  have sB : Same (gh p H) (gh p H17) := sA.trans (t14.trans t17)
  have sC : Same H17 H21 := t19.trans (s20.trans s21)
  have hconn : Conn n (srt ts) := by
    refine conn_of pm fun k hk => ?_
    have hol := OO.len
    obtain ⟨d, hd, d0, d1⟩ := hps1k k (by omega)
    obtain ⟨x, hx, _, x0, x1⟩ := OO.get (i := (k : Int) + 1) (by omega) (by omega)
    obtain ⟨y, hy, _, y0, y1⟩ := OO.get (i := d) (by omega) (by omega)
    refine ⟨d.toNat, x, y, by omega, ?_, hy, ?_⟩
    · rw [show k + 1 = ((k : Int) + 1).toNat by omega]
      exact hx
    · have := hTk k _ (by have := (List.getElem?_eq_some_iff.mp (hpk k _ hd)).1; omega) (hpk k _ hd) (by show ((k : Int) + 1) ≠ d; omega) x y hx hy
      exact (srt_perm ts).mem_iff.mpr this
  exact q n (srt ts) w a zs H21 (hT.srt n1 (by omega) (by omega)) n2 hconn (PP17.mono sC) (gh_then sB sC) (gh_free sB PP17 (t19.free (s20.free nw))) (gh_free sB PP17 (t19.free na)) hw (s21 _ _ ha) (Prs.mono s21 hz)
def sp_bloose (K : PySem.W.Frag) : Sp := fun vs H Q _ => ∃ (p : Addr) (most more : Int), vs = [.ref p, .int most, .int more] ∧ Pool H p ∧ 1 ≤ most ∧ most ≤ 40 ∧ 0 ≤ more ∧ most - 1 + more ≤ 120 ∧
  ∀ (n : Int) (ts : List (Int × Int)) (w a : Addr) (xs : List V) (H' : Hp), WebOk n ts → n ≤ most → Pool H' p → Same (gh p H) (gh p H') → H w = none → H a = none → H' w = some (.tup [.int n, .ref a]) → H' a = some (.lst xs) → Paired (Pr H') xs ts → Q (.ref w) H'
def t_bloose2 (K : PySem.W.Frag) : TS := (tRet (tTupG (tCons (tVar 3) (tCons (tVar 4) tNil))))
def t_bloose (K : PySem.W.Frag) : TS := (tSeq (tAsg (tCall (sp_bweb K) [] E0 (tCons (tVar 0) (tCons (tVar 1) (tCons (tVar 2) tNil)))) (gTup K 2 (gCons (gName 3) (gCons (gName 4) gNil))))
    (tSeq (tIfS (tTest (tOp rEq (tCall (sp_btake K) [] E0 (tCons (tVar 0) (tCons (tC (.int 4)) tNil))) (tC (.int 0)))) (tAsg (tLc (iList K (tVar 4)) (gName 5) (tTest (tOp rGt (tCall (sp_btake K) [] E0 (tCons (tVar 0) (tCons (tC (.int 3)) tNil))) (tC (.int 0)))) (tVar 5) [5]) (gName 4)) tNext)
    (t_bloose2 K)))
theorem pure_bloose {K : PySem.W.Frag} {vs : List V} {H : Hp} {Q : VK} {E : XK} (h : sp_bloose K vs H Q E) : t_bloose K (Fin Q) (start ["_law_pool_here", "_law_most", "_law_more", "_law_many", "_law_ties", "_law_tie"] vs) H := by
  obtain ⟨p, most, more, rfl, P0, m1, m2, m3, m4, q⟩ := h
  have hsz : sizeLine = 16777216 := sizeLine_eq
  refine ⟨_, rfl, _, rfl, _, rfl, p, most, more, rfl, P0, m1, m2, m3, m4, fun n ts w a xs H1 W nm C P1 s1 nw na hw ha hx => ?_⟩
  refine ⟨w, _, rfl, sqt hw, rfl, _, _, rfl, _, _, rfl, rfl, ?_⟩
  refine ⟨_, rfl, p, 4, rfl, P1, by decide, by decide, fun r o r0 r1 P2 => ⟨rfl, _, rfl, ?_⟩⟩
  have nap : a ≠ p := P0.ne na
  obtain ⟨g1, z1, e1⟩ := P1
  have s2 : Same (gh p H) (gh p (upd H1 p o)) := gh_pool s1
  have ha2 : (upd H1 p o) a = some (.lst xs) := by rw [upd_ne nap]; exact ha
  have hx2 : Paired (Pr (upd H1 p o)) xs ts := Prs.updO e1 hx
  generalize upd H1 p o = H2 at P2 s2 ha2 hx2
  have fin : ∀ (us : List (Int × Int)) (a' : Addr) (ys : List V) (H3 : Hp) (v : Option V), WebOk n us → Pool H3 p → Same (gh p H) (gh p H3) → H a' = none → H3 a' = some (.lst ys) → Paired (Pr H3) ys us →
      t_bloose2 K (Fin Q) [some (.ref p), some (.int most), some (.int more), some (.int n), some (.ref a'), v] H3 := fun us a' ys H3 v W' P3 s3 na' ha' hy =>
    ⟨_, rfl, _, rfl, by show 2 ≤ sizeLine; omega, fun w' H4 nw' s4 hw' => q n us w' a' ys H4 W' nm (P3.mono s4) (gh_then s3 s4) (gh_free s3 P3 nw') na' hw' (s4 _ _ ha') (Prs.mono s4 hy)⟩
  refine ite2 (fun _ => ?_) (fun _ => fin ts a xs H2 none W P2 s2 na ha2 hx2)
  refine ⟨_, rfl, a, rfl, ⟨_, sql ha2⟩, fun D nD => ?_⟩
  have nD0 : H D = none := gh_free s2 P2 nD
  have nDp : D ≠ p := P2.ne nD
  have naD : a ≠ D := fun e => by
    rw [e, nD] at ha2
    cases ha2
  have hxl := Paired.length hx2
  have few := W.few
  refine lc_it (walk_list (xs := xs)) (fun i H3 => ∃ ys us, PW p D H H3 ys us ∧ H3 a = some (.lst xs) ∧ Paired (Pr H3) xs ts ∧ us.length ≤ i ∧ us.Sublist (ts.take i))
    ⟨[], [], ⟨P2.mono (same_new nD), gh_then s2 (same_new nD), upd_same, .nil⟩, same_new nD _ _ ha2, Prs.mono (same_new nD) hx2, Nat.le_refl _, List.Sublist.refl _⟩ (fun i H3 _ ⟨_, _, _, h, _⟩ => sql h) (fun i x H3 H4 hi P y => ?_) (fun H3 P => ?_)
  · obtain ⟨rfl, ex⟩ := y
    obtain ⟨ys, us, PWh, ha3, hx3, hl, hsub⟩ := P
    obtain ⟨t, et, pt⟩ := paired_get hx3 ex
    have hyl := Paired.length PWh.prs
    have htk : ts.take (i + 1) = ts.take i ++ [t] := by rw [List.take_add_one, et]; rfl
    refine ⟨rfl, _, rfl, p, 3, rfl, PWh.pool, by decide, by decide, fun r o r0 r1 P3 => ⟨_, _, rfl, rfl, _, rfl, ?_⟩⟩
    obtain ⟨g3, z3, e3⟩ := PWh.pool
    have W3 := PWh.take nDp P3
    have ha4 : (upd H4 p o) a = some (.lst xs) := by rw [upd_ne nap]; exact ha3
    have hx4 : Paired (Pr (upd H4 p o)) xs ts := Prs.updO e3 hx3
    have pt4 : Pr (upd H4 p o) x t := Pr.updO e3 pt
    refine ite2 (fun _ => ?_) (fun _ => ⟨ys, us, W3, ha4, hx4, by omega, htk ▸ (hsub.trans (List.sublist_append_left _ _))⟩)
    refine ⟨_, rfl, ys, W3.at_, by omega, ys ++ [x], us ++ [t], ⟨?_, gh_mut W3.sm nD0, upd_same, Prs.updO W3.at_ (Paired.snoc W3.prs pt4)⟩, by rw [upd_ne naD]; exact ha4, Prs.updO W3.at_ hx4, by simp; omega, htk ▸ (hsub.append (List.Sublist.refl _))⟩
    obtain ⟨g, z, e⟩ := W3.pool
    exact ⟨g, z, by rw [upd_ne nDp.symm]; exact e⟩
  · obtain ⟨ys, us, PWh, ha3, hx3, hl, hsub⟩ := P
    rw [hxl, List.take_of_length_le (Nat.le_refl _)] at hsub
    exact fin us D ys H3 _ (W.sub hsub) PWh.pool PWh.sm nD0 PWh.at_ PWh.prs
end G39

/-! dict([(tie, True), ..]); len(set(l)); x in d as a value. -/
namespace G39
open PySem PySem.Spec PyProof.Rows L2
abbrev rDictT (K : PySem.W.Frag) : List V → Hp → VK → Prop := fun vs H Q => ∃ (a : Addr) (zs : List (Addr × Addr × (Int × Int))), vs = [.ref a] ∧ H a = some (.lst (zs.map fun z => V.ref z.1)) ∧ (zs.map (·.2.2)).Nodup ∧
  (∀ z ∈ zs, H z.1 = some (.tup [.ref z.2.1, .bl true]) ∧ H z.2.1 = some (.tup [.int z.2.2.1, .int z.2.2.2])) ∧ Nw H (.dT (tdict (zs.map (·.2.2)))) Q
theorem storedAllH_nd {K : Type} [DecidableEq K] : ∀ (ps xs : List (K × Addr × Value)), ((xs ++ ps).map (·.1)).Nodup → storedAllH xs ps = xs ++ ps
  | [], xs, _ => by simp [storedAllH]
  | p :: ps, xs, h => by
    have e : storedAllH xs (p :: ps) = storedAllH (storedH xs p.1 p.2.1 p.2.2) ps := rfl
    have hn : atKey xs p.1 = none := by
      refine atKey_none_of_get fun j q hq => ?_
      rw [List.map_append, List.nodup_append] at h
      exact h.2.2 p.1 (List.mem_map.mpr ⟨_, List.mem_of_getElem? hq, rfl⟩) p.1 (by simp) rfl
    rw [e, storedH_new hn, storedAllH_nd ps _ (by simpa using h)]
    simp
section
variable {X : Cx}
theorem cr_dictT (hc : X.calm = true) (hu : X.A.units + 64 < cLine) : CallR X (.type "dict") (rDictT X.K) := by
  intro pins s σ H xs us Q I r h
  obtain ⟨a, zs, rfl, ha, nd, hz, q⟩ := h
  rw [Vals.ref1 r]
  obtain ⟨hl, its, n, rv, hget⟩ := I.hok a _ ha
  have ei : its = zs.map fun z => Value.ref z.1 := by
    have e0 : (zs.map fun z => V.ref z.1) = (zs.map (·.1)).map V.ref := by rw [List.map_map]; rfl
    rw [e0] at rv
    have := refs_at rv
    rw [this, List.map_map]
    rfl
  subst ei
  have zl : zs.length ≤ sizeLine := by
    rw [List.length_map] at hl
    exact hl
  have hP : PairItems s.heap (zs.map fun z => Value.ref z.1).toArray (fun j => ((zs[j]?).map (·.1)).getD 0) (zs.map fun z => (Value.ref z.2.1, Value.bool true)) := by
    refine ⟨by simp, fun j k v e => ?_⟩
    rw [List.getElem?_map] at e
    cases ez : zs[j]? with
    | none =>
      rw [ez] at e
      cases e
    | some z =>
      rw [ez] at e
      have e := Option.some.inj e
      obtain ⟨rfl, rfl⟩ := Prod.mk.inj e
      refine ⟨by simp [ez], .inl ?_⟩
      obtain ⟨its2, r2, pt, _⟩ := I.tuple (sqt (hz z (List.mem_of_getElem? ez)).1)
      obtain ⟨u, y, e2, ru, ry⟩ := vals2 r2
      subst e2
      cases ru
      cases ry
      have : s.heap.IsTuple z.1 #[Value.ref z.2.1, Value.bool true] := pt
      simpa [ez] using this
  refine PySem.call_dict_pairsH (knd := tupleKind (mixKind X.prog X.w)) (ps := zs.map fun z => (keyT z.2.2, z.2.1, Value.bool true)) (PairArg.list a _ _ _) (I.ok.hd hc) ?room ⟨⟨_, n, hget, rfl, rfl, rfl⟩, hP⟩ ?hav ?stay (by rw [List.length_map]; exact zl) fun h' tk hd' k => ?_
  case room =>
    show X.A.in1.in1.units < cLine
    simp
    omega
  case hav =>
    refine ⟨by simp, fun i key v e => ?_⟩
    unfold PairRel at e
    rw [List.getElem?_map] at e
    cases ez : zs[i]? with
    | none =>
      rw [ez] at e
      cases e
    | some z =>
      rw [ez] at e
      have e := Option.some.inj e
      obtain ⟨rfl, rfl⟩ := Prod.mk.inj e
      exact ⟨keyT z.2.2, z.2.1, by rw [List.getElem?_map, ez]; rfl, rfl⟩
  case stay =>
    intro h2 hk x hx
    obtain ⟨z, hm, rfl⟩ := List.mem_map.mp hx
    have e : H z.2.1 = some (.tup ((keyT z.2.2).map kV)) := (hz z hm).2
    obtain ⟨o, items, n', ho, r1⟩ := key_of I.hok e
    exact ⟨o, items, n', hk _ _ (Nat.ne_of_lt (Heap.lt_size ho)) (by simp) ho, r1⟩
  have hm : (s.heap.objs.size == sysModules) = false := beq_eq_false_iff_ne.mpr (Nat.ne_of_gt I.big)
  have kinj : ∀ t u : Int × Int, keyT t = keyT u → t = u := fun t u e => Prod.ext (Sum.inl.inj (List.cons.inj e).1) (Sum.inl.inj (List.cons.inj (List.cons.inj e).2).1)
  have nd2 : ((zs.map fun z => (keyT z.2.2, z.2.1, Value.bool true)).map (·.1)).Nodup := by
    rw [List.map_map]
    have e : ((·.1) ∘ fun z : Addr × Addr × (Int × Int) => (keyT z.2.2, z.2.1, Value.bool true)) = keyT ∘ (·.2.2) := rfl
    rw [e, ← List.map_map]
    exact List.pairwise_map.mpr (nd.imp fun {a b} h e => h (kinj _ _ e))
  rw [storedAllH_nd _ [] (by simpa using nd2), List.nil_append] at hd'
  have hn : H s.heap.objs.size = none := I.hok.fresh (Nat.le_refl _)
  obtain ⟨o, es, ep, d1, d2, d3, d4, d5, d6⟩ := hd'
  have hobj : ObjOk X.prog X.w (upd H s.heap.objs.size (.dT (tdict (zs.map (·.2.2))))) h' s.heap.objs.size (.dT (tdict (zs.map (·.2.2)))) := by
    refine ⟨by unfold tdict; simp; exact zl, hm, _, ?_, o, es, ep, d1, d2, d3, d4, d6⟩
    unfold tdict
    have aux : ∀ l : List (Addr × Addr × (Int × Int)), (∀ z ∈ l, H z.2.1 = some (.tup [.int z.2.2.1, .int z.2.2.2])) → Paired (fun (p : List L2.Key × V) (q : List L2.Key × Addr × Value) => p.1 = q.1 ∧ (upd H s.heap.objs.size (.dT (tdict (zs.map (·.2.2))))) q.2.1 = some (.tup (p.1.map kV)) ∧ RelV p.2 q.2.2) ((l.map (·.2.2)).map fun t => (keyT t, V.bl true)) (l.map fun z => (keyT z.2.2, z.2.1, Value.bool true)) := by
      intro l
      induction l with
      | nil => intro _; exact .nil
      | cons z l ih =>
        intro hl
        have hz := hl z List.mem_cons_self
        refine .cons ⟨rfl, ?_, rfl⟩ (ih fun y hy => hl y (List.mem_cons_of_mem _ hy))
        rw [upd_ne (ne_of_none hz hn)]
        exact hz
    exact aux zs fun z hm => (hz z hm).2
  exact ⟨.ref s.heap.objs.size, _, I.laid (t' := tk) (fun b o e => k b o (by simp) e) (Nat.le_refl _) hobj, rfl, q.use _ hn⟩
end
end G39

/-! Namings: places called otherwise. -/
namespace G39
open PySem PySem.Spec PyProof.Rows L2
/-- the name of i -/
def nmO (os : List Int) (i : Int) : Int := os.getD i.toNat 0
theorem OrdOk.nm {n : Int} {os : List Int} (h : OrdOk n os) {i : Int} (h0 : 0 ≤ i) (h1 : i < n) : os[i.toNat]? = some (nmO os i) ∧ atI (os.map V.int) i = some (.int (nmO os i)) ∧ 0 ≤ nmO os i ∧ nmO os i < n := by
  obtain ⟨x, e1, e2, e3⟩ := h.get h0 h1
  have e : nmO os i = x := by
    unfold nmO
    rw [List.getD_eq_getElem?_getD, e1]
    rfl
  rw [e]
  exact ⟨e1, e2, e3⟩
theorem OrdOk.inj {n : Int} {os : List Int} (h : OrdOk n os) {i j : Int} (h0 : 0 ≤ i) (h1 : i < n) (k0 : 0 ≤ j) (k1 : j < n) (e : nmO os i = nmO os j) : i = j := by
  have a := (h.nm h0 h1).1
  have b := (h.nm k0 k1).1
  rw [e] at a
  have := nd_ix h.nd a b
  omega
def trT (os : List Int) (t : Int × Int) : Int × Int := tieOf (nmO os t.1) (nmO os t.2)
def rnT (os : List Int) (ts : List (Int × Int)) : List (Int × Int) := srt (ts.map (trT os))
theorem mem_rnT {os : List Int} {ts : List (Int × Int)} {x : Int × Int} : x ∈ rnT os ts ↔ ∃ t ∈ ts, trT os t = x := by
  unfold rnT
  rw [(srt_perm _).mem_iff, List.mem_map]
theorem tieOf_inj {a b c d : Int} (h : tieOf a b = tieOf c d) : (a = c ∧ b = d) ∨ (a = d ∧ b = c) := by
  unfold tieOf at h
  have h1 := (Prod.mk.inj h).1
  have h2 := (Prod.mk.inj h).2
  split at h1 <;> split at h2 <;> split at h1 <;> split at h2 <;> omega
theorem rn_tok {n : Int} {ts : List (Int × Int)} {os : List Int} (W : WebOk n ts) (O : OrdOk n os) : TOk n (ts.map (trT os)) := by
  have nd : ts.Nodup := W.ord.imp fun {a b} h e => by
    subst e
    unfold ltT at h
    omega
  refine ⟨List.pairwise_map.mpr ?_, fun t ht => ?_⟩
  · refine (List.Pairwise.and_mem.mp nd).imp fun {a b} ⟨ma, mb, ne⟩ e => ne ?_
    have ga := W.good a ma
    have gb := W.good b mb
    rcases tieOf_inj e with ⟨e1, e2⟩ | ⟨e1, e2⟩
    · exact Prod.ext (O.inj (by omega) (by omega) (by omega) (by omega) e1) (O.inj (by omega) (by omega) (by omega) (by omega) e2)
    · have e1 := O.inj (i := a.1) (j := b.2) (by omega) (by omega) (by omega) (by omega) e1
      have e2 := O.inj (i := a.2) (j := b.1) (by omega) (by omega) (by omega) (by omega) e2
      omega
  · obtain ⟨u, hu, rfl⟩ := List.mem_map.mp ht
    have g := W.good u hu
    have a := O.nm (i := u.1) (by omega) (by omega)
    have b := O.nm (i := u.2) (by omega) (by omega)
    refine tieOf_ok a.2.2 b.2.2 fun e => ?_
    have := O.inj (i := u.1) (j := u.2) (by omega) (by omega) (by omega) (by omega) e
    omega
theorem rn_ok {n : Int} {ts : List (Int × Int)} {os : List Int} (W : WebOk n ts) (O : OrdOk n os) : WebOk n (rnT os ts) := (rn_tok W O).srt W.lo W.hi (by rw [List.length_map]; exact W.few)
theorem rn_len (os : List Int) (ts : List (Int × Int)) : (rnT os ts).length = ts.length := by
  unfold rnT
  rw [(srt_perm _).length_eq, List.length_map]
theorem ltT_nd {ts : List (Int × Int)} (h : ts.Pairwise ltT) : ts.Nodup := h.imp fun {a b} h e => by
  subst e
  unfold ltT at h
  omega
theorem web_ext {n : Int} {ts us : List (Int × Int)} (W : WebOk n ts) (U : WebOk n us) (h : ∀ t, t ∈ ts ↔ t ∈ us) : ts = us := by
  have p : ts.Perm us := (List.perm_ext_iff_of_nodup (ltT_nd W.ord) (ltT_nd U.ord)).mpr h
  have le : ∀ {l : List (Int × Int)}, l.Pairwise ltT → l.Pairwise (fun a b => leT a b = true) := fun h => h.imp fun {a b} h => by
    rw [leT_iff]
    unfold ltT at h
    omega
  exact sorted_uniq leT_anti (le W.ord) (le U.ord) p
theorem tr_tr (a b : List Int) (t : Int × Int) : trT b (trT a t) = tieOf (nmO b (nmO a t.1)) (nmO b (nmO a t.2)) := by
  unfold trT
  generalize nmO a t.1 = x
  generalize nmO a t.2 = y
  have c : tieOf x y = (x, y) ∨ tieOf x y = (y, x) := by
    unfold tieOf
    by_cases h : y < x
    · right
      rw [if_pos h, if_neg (by omega)]
    · by_cases h2 : y > x
      · left
        rw [if_neg h, if_pos h2]
      · left
        have e : x = y := by omega
        subst e
        simp
  rcases c with e | e
  · rw [e]
  · rw [e]
    exact tieOf_comm _ _
theorem rn_back {n : Int} {ts : List (Int × Int)} {os bk : List Int} (W : WebOk n ts) (O : OrdOk n os) (B : OrdOk n bk) (h : ∀ i, 0 ≤ i → i < n → nmO bk (nmO os i) = i) : rnT bk (rnT os ts) = ts := by
  refine web_ext (rn_ok (rn_ok W O) B) W fun x => ?_
  have e : ∀ t ∈ ts, trT bk (trT os t) = t := fun t ht => by
    have g := W.good t ht
    rw [tr_tr, h _ (by omega) (by omega), h _ (by omega) (by omega), tieOf_lt g.2.1]
  rw [mem_rnT]
  constructor
  · rintro ⟨y, hy, rfl⟩
    obtain ⟨t, ht, rfl⟩ := mem_rnT.mp hy
    rw [e t ht]
    exact ht
  · intro hx
    exact ⟨trT os x, mem_rnT.mpr ⟨x, hx, rfl⟩, e x hx⟩
theorem rn_both {n : Int} {ts : List (Int × Int)} {a b c : List Int} (W : WebOk n ts) (A : OrdOk n a) (B : OrdOk n b) (C : OrdOk n c) (h : ∀ i, 0 ≤ i → i < n → nmO c i = nmO b (nmO a i)) : rnT b (rnT a ts) = rnT c ts := by
  refine web_ext (rn_ok (rn_ok W A) B) (rn_ok W C) fun x => ?_
  have e : ∀ t ∈ ts, trT b (trT a t) = trT c t := fun t ht => by
    have g := W.good t ht
    rw [tr_tr, ← h _ (by omega) (by omega), ← h _ (by omega) (by omega)]
    rfl
  rw [mem_rnT, mem_rnT]
  constructor
  · rintro ⟨y, hy, rfl⟩
    obtain ⟨t, ht, rfl⟩ := mem_rnT.mp hy
    exact ⟨t, ht, (e t ht).symm⟩
  · rintro ⟨t, ht, rfl⟩
    exact ⟨trT a t, mem_rnT.mpr ⟨t, ht, rfl⟩, e t ht⟩
/-- a list of bools, all true -/
theorem bls_allU (m : Nat) : (((List.range m).filter (fun _ => true)).map fun _ => V.bl true) = (List.replicate m true).map V.bl := by
  rw [List.filter_eq_self.mpr (fun _ _ => rfl), List.map_const', List.map_replicate, List.length_range]
def sp_ties_by (K : PySem.W.Frag) : Sp := fun vs H Q _ => ∃ (v : V) (n : Int) (ts : List (Int × Int)), vs = [v] ∧ IsW H v n ts ∧ WebOk n ts ∧ Nw H (.dT (tdict ts)) Q
def t_ties_by (K : PySem.W.Frag) : TS := (tRet (tCB (rDictT K) (tCons (tLc (iList K (tOp (rIxT K) (tVar 0) (tC (.int 1)))) (gName 1) tYes (tTupG (tCons (tVar 1) (tCons (tC (.bl true)) tNil))) [1]) tNil)))
theorem pure_ties_by {K : PySem.W.Frag} {vs : List V} {H : Hp} {Q : VK} {E : XK} (h : sp_ties_by K vs H Q E) : t_ties_by K (Fin Q) (start ["web", "tie"] vs) H := by
  obtain ⟨v, n, ts, rfl, ⟨p, a, rfl, hp, xs, ha, hx⟩, W, q⟩ := h
  have hsz : sizeLine = 16777216 := sizeLine_eq
  have hxl := Paired.length hx
  have few := W.few
  refine ⟨_, rfl, _, _, _, _, rfl, rfl, sqt hp, atI_nat (j := 1) rfl, a, rfl, ⟨_, sql ha⟩, fun D nD => ?_⟩
  refine lc_it (walk_list (xs := xs)) (fun i H1 => ∃ zs : List (Addr × Addr × (Int × Int)), Same H H1 ∧ H1 D = some (.lst (zs.map fun z => V.ref z.1)) ∧ zs.map (·.2.2) = ts.take i ∧ ∀ z ∈ zs, H1 z.1 = some (.tup [.ref z.2.1, .bl true]) ∧ H1 z.2.1 = some (.tup [.int z.2.2.1, .int z.2.2.2]))
    ⟨[], same_new nD, upd_same, by simp, fun z hz => by simp at hz⟩ (fun i H1 _ ⟨_, s, _⟩ => sql (s _ _ ha)) (fun i x H1 H2 hi P y => ?_) (fun H1 P => ?_)
  · obtain ⟨rfl, ex⟩ := y
    obtain ⟨zs, s1, hD, em, hz⟩ := P
    obtain ⟨t, et, b, rfl, hb⟩ := paired_get hx ex
    have zl : zs.length ≤ i := by
      have := congrArg List.length em
      rw [List.length_map, List.length_take] at this
      omega
    refine ⟨rfl, _, rfl, by show 2 ≤ sizeLine; omega, fun T H3 nT s3 hT => ?_⟩
    have hD3 := s3 _ _ hD
    have keep : ∀ c u, H3 c = some (.tup u) → (upd H3 D (.lst ((zs.map fun z => V.ref z.1) ++ [.ref T]))) c = some (.tup u) := fun c u e => by
      rw [upd_ne (ne_of e hD3 (by intro z; cases z))]
      exact e
    refine ⟨_, hD3, by rw [List.length_map]; omega, zs ++ [(T, b, t)], same_mut (s1.trans s3) nD, by rw [upd_same, List.map_append]; rfl, ?_, fun z hm => ?_⟩
    · rw [List.map_append, em, List.take_add_one, et]
      rfl
    · rcases List.mem_append.mp hm with h | h
      · exact ⟨keep _ _ (s3 _ _ (hz z h).1), keep _ _ (s3 _ _ (hz z h).2)⟩
      · have e : z = (T, b, t) := by simpa using h
        subst e
        exact ⟨keep _ _ hT, keep _ _ (s3 _ _ (s1 _ _ hb))⟩
  · obtain ⟨zs, s1, hD, em, hz⟩ := P
    rw [hxl, List.take_of_length_le (Nat.le_refl _)] at em
    refine ⟨D, zs, rfl, hD, by rw [em]; exact ltT_nd W.ord, hz, fun d H2 nd s2 hd => q d H2 (s1.free nd) (s1.trans s2) ?_⟩
    rw [hd, em]
def sp_is_all_places (K : PySem.W.Frag) : Sp := fun vs H Q _ => ∃ (v : V) (l : Addr) (n : Int) (ts : List (Int × Int)) (os : List Int), vs = [v, .ref l] ∧ IsW H v n ts ∧ WebOk n ts ∧ H l = some (.lst (os.map V.int)) ∧ OrdOk n os ∧ ∀ H', Same H H' → Q (.bl true) H'
def t_is_all_places (K : PySem.W.Frag) : TS := (tSeq (tIfS (tOr (tNot (tB (tCB (rIsi K) (tCons (tVar 1) (tCons (tC (.ty "list")) tNil))))) (tTest (tOp rNe (tCB (rLenSq K) (tCons (tVar 1) tNil)) (tOp (rIxT K) (tVar 0) (tC (.int 0)))))) (tRet (tC (.bl false))) tNext)
    (tRet (tAndV (tCB (rAll K) (tCons (tLc (iList K (tVar 1)) (gName 2) tYes (tCall (sp_is_place K) [] E0 (tCons (tVar 0) (tCons (tVar 2) tNil))) [2]) tNil)) (tOp rEq (RZ.tLenSetI K (tVar 1)) (tCB (rLenSq K) (tCons (tVar 1) tNil))))))
theorem pure_is_all_places {K : PySem.W.Frag} {vs : List V} {H : Hp} {Q : VK} {E : XK} (h : sp_is_all_places K vs H Q E) : t_is_all_places K (Fin Q) (start ["web", "thing", "place"] vs) H := by
  obtain ⟨v, l, n, ts, os, rfl, hw, W, hl, O, q⟩ := h
  have hsz : sizeLine = 16777216 := sizeLine_eq
  have hn := W.hi
  have hn1 := W.lo
  have hol := O.len
  obtain ⟨p, a, rfl, hp, _⟩ := id hw
  refine ⟨_, rfl, _, _, _, _, _, rfl, .ty "list", ty_lst hl, k_ll, _, rfl, iteF ?_⟩
  refine ⟨_, rfl, l, _, rfl, .inl (sql hl), _, rfl, _, _, _, _, rfl, rfl, sqt hp, atI_nat (j := 0) rfl, rfl, _, rfl, ?_⟩
  refine iteNS (congrArg V.int (by rw [List.length_map]; omega)) ?_
  refine ⟨_, rfl, l, rfl, ⟨_, sql hl⟩, fun D nD => ?_⟩
  refine lc_pure (walk_list (xs := os.map V.int)) nD (fun _ => .bl true) (fun _ => true) (by rw [List.length_map]; omega) (fun H1 s1 => sql (s1 _ _ hl)) (fun k x H1 H2 Nx Ny hk s1 y hX hY => ?_) (fun H1 s1 hD => ?_)
  · obtain ⟨rfl, hy⟩ := y
    rw [List.length_map] at hk
    rw [List.getElem?_map, List.getElem?_eq_getElem hk] at hy
    have ex : V.int os[k] = x := Option.some.inj hy
    subst ex
    have g := O.mem os[k] (List.getElem_mem hk)
    refine ⟨rfl, _, rfl, _, rfl, .ref p, n, ts, os[k], rfl, hw.mono s1, ?_⟩
    rw [decide_eq_true (by omega)]
    exact hX rfl _ (Same.refl _)
  · rw [bls_allU] at hD
    refine ⟨D, _, rfl, sql hD, _, rfl, ?_⟩
    rw [show (List.replicate (os.map V.int).length true).all id = true by simp]
    refine iteT ?_
    have hl1 := s1 _ _ hl
    refine ⟨_, rfl, l, os, rfl, sql hl1, O.nd, by omega, _, rfl, l, _, rfl, .inl (sql hl1), rfl, ?_⟩
    have := q H1 s1
    rw [List.length_map, decide_eq_true rfl]
    exact this
end G39

/-! Namings, second part: the program's functions. -/
namespace G39
open PySem PySem.Spec PyProof.Rows L2
theorem paired_of_getU {α β : Type} {F : α → β → Prop} : ∀ {xs : List α} {ys : List β}, xs.length = ys.length → (∀ (i : Nat) x y, xs[i]? = some x → ys[i]? = some y → F x y) → Paired F xs ys
  | [], [], _, _ => .nil
  | [], _ :: _, h, _ => by simp at h
  | _ :: _, [], h, _ => by simp at h
  | x :: xs, y :: ys, h, f => .cons (f 0 x y rfl rfl) (paired_of_getU (by simpa using h) fun i a b e1 e2 => f (i + 1) a b (by simpa using e1) (by simpa using e2))
def sp_is_naming_in (K : PySem.W.Frag) : Sp := fun vs H Q _ => ∃ (v v2 : V) (l : Addr) (n : Int) (ts : List (Int × Int)) (os : List Int), vs = [v, v2, .ref l] ∧ IsW H v n ts ∧ WebOk n ts ∧ IsW H v2 n (rnT os ts) ∧ H l = some (.lst (os.map V.int)) ∧ OrdOk n os ∧ ∀ H', Same H H' → Q (.bl true) H'
def t_is_naming_in (K : PySem.W.Frag) : TS := (tSeq (tIfS (tOr (tTest (tOp rNe (tOp (rIxT K) (tVar 0) (tC (.int 0))) (tOp (rIxT K) (tVar 1) (tC (.int 0))))) (tOr (tNot (tB (tCall (sp_is_all_places K) [] E0 (tCons (tVar 1) (tCons (tVar 2) tNil))))) (tTest (tOp rNe (tCB (rLenSq K) (tCons (tOp (rIxT K) (tVar 0) (tC (.int 1))) tNil)) (tCB (rLenSq K) (tCons (tOp (rIxT K) (tVar 1) (tC (.int 1))) tNil)))))) (tRet (tC (.bl false))) tNext)
    (tSeq (tAsg (tCall (sp_ties_by K) [] E0 (tCons (tVar 1) tNil)) (gName 3))
    (tRet (tCB (rAll K) (tCons (tLc (iList K (tOp (rIxT K) (tVar 0) (tC (.int 1)))) (gTup K 2 (gCons (gName 4) (gCons (gName 5) gNil))) tYes (tDIn (tCall (sp_tie_of K) [] E0 (tCons (tOp (rIxL K) (tVar 2) (tVar 4)) (tCons (tOp (rIxL K) (tVar 2) (tVar 5)) tNil))) (tVar 3)) [4, 5]) tNil)))))
theorem pure_is_naming_in {K : PySem.W.Frag} {vs : List V} {H : Hp} {Q : VK} {E : XK} (h : sp_is_naming_in K vs H Q E) : t_is_naming_in K (Fin Q) (start ["one", "other", "thing", "known", "here", "there"] vs) H := by
  obtain ⟨v, v2, l, n, ts, os, rfl, ⟨p, a, rfl, hp, xs, ha, hx⟩, W, hw2, hl, O, q⟩ := h
  have hsz : sizeLine = 16777216 := sizeLine_eq
  have few := W.few
  have hxl := Paired.length hx
  obtain ⟨p2, a2, rfl, hp2, ys, ha2, hy⟩ := id hw2
  have hyl := Paired.length hy
  have W2 := rn_ok W O
  refine ⟨_, rfl, _, _, _, _, rfl, rfl, sqt hp, atI_nat (j := 0) rfl, _, rfl, _, _, _, _, rfl, rfl, sqt hp2, atI_nat (j := 0) rfl, rfl, _, rfl, iteNS rfl ?_⟩
  refine ⟨_, rfl, _, rfl, _, l, n, _, os, rfl, hw2, W2, hl, O, fun H1 s1 => ⟨_, rfl, iteF ?_⟩⟩
  refine ⟨_, rfl, _, _, _, _, rfl, rfl, sqt (s1 _ _ hp), atI_nat (j := 1) rfl, a, xs, rfl, .inl (sql (s1 _ _ ha)), _, rfl, _, _, _, _, rfl, rfl, sqt (s1 _ _ hp2), atI_nat (j := 1) rfl, a2, ys, rfl, .inl (sql (s1 _ _ ha2)), rfl, _, rfl, ?_⟩
  refine iteNS (congrArg V.int (by rw [hxl, hyl, rn_len])) ?_
  refine ⟨_, rfl, _, n, _, rfl, hw2.mono s1, W2, fun d H2 nd s2 hd => ?_⟩
  have s12 := s1.trans s2
  have ha12 := s12 _ _ ha
  refine ⟨_, rfl, _, _, _, _, rfl, rfl, sqt (s12 _ _ hp), atI_nat (j := 1) rfl, a, rfl, ⟨_, sql ha12⟩, fun D nD => ?_⟩
  refine lc_pure (walk_list (xs := xs)) nD (fun _ => .bl true) (fun _ => true) (by omega) (fun H3 s3 => sql (s3 _ _ ha12)) (fun k x H3 H4 Nx Ny hk s3 y hX hY => ?_) (fun H3 s3 hD => ?_)
  · obtain ⟨rfl, ex⟩ := y
    obtain ⟨t, et, b, rfl, hb⟩ := paired_get hx ex
    have tm := List.mem_of_getElem? et
    have g := W.good t tm
    have s13 := s12.trans s3
    have hl3 := s13 _ _ hl
    have o1 := O.nm (i := t.1) (by omega) (by omega)
    have o2 := O.nm (i := t.2) (by omega) (by omega)
    refine ⟨b, _, rfl, sqt (s13 _ _ hb), rfl, _, _, rfl, _, _, rfl, rfl, rfl, ?_⟩
    refine ⟨_, rfl, _, rfl, _, _, _, _, rfl, rfl, sql hl3, o1.2.1, _, rfl, _, rfl, _, _, _, _, rfl, rfl, sql hl3, o2.2.1, _, _, rfl, fun T H5 nT s5 hT => ?_⟩
    have hd5 := s5 _ _ (s3 _ _ hd)
    refine ⟨_, rfl, d, _, rfl, DGet.t (k := keyT (trT os t)) hd5 hT, ?_⟩
    rw [find_tdict, if_pos (mem_rnT.mpr ⟨t, tm, rfl⟩)]
    exact hX rfl _ s5
  · rw [bls_allU] at hD
    refine ⟨D, _, rfl, sql hD, ?_⟩
    rw [show (List.replicate xs.length true).all id = true by simp]
    exact q H3 (s12.trans s3)
def sp_lets_naming (K : PySem.W.Frag) : Sp := sp_is_naming_in K
def t_lets_naming (K : PySem.W.Frag) : TS := (tSeq (tDrop (tCall (sp_look_at_web K) [] E0 (tCons (tVar 0) tNil)))
    (tSeq (tDrop (tCall (sp_look_at_web K) [] E0 (tCons (tVar 1) tNil)))
    (tRet (tCall (sp_is_naming_in K) [] E0 (tCons (tVar 0) (tCons (tVar 1) (tCons (tVar 2) tNil)))))))
theorem pure_lets_naming {K : PySem.W.Frag} {vs : List V} {H : Hp} {Q : VK} {E : XK} (h : sp_lets_naming K vs H Q E) : t_lets_naming K (Fin Q) (start ["one", "other", "thing"] vs) H := by
  obtain ⟨v, v2, l, n, ts, os, rfl, hw, W, hw2, hl, O, q⟩ := h
  refine ⟨_, rfl, v, n, ts, rfl, hw, W, fun H1 s1 => ?_⟩
  refine ⟨_, rfl, v2, n, _, rfl, hw2.mono s1, rn_ok W O, fun H2 s2 => ?_⟩
  have s12 := s1.trans s2
  exact ⟨_, rfl, _, rfl, _, rfl, v, v2, l, n, ts, os, rfl, hw.mono s12, W, hw2.mono s12, s12 _ _ hl, O, fun H3 s3 => q H3 (s12.trans s3)⟩
def sp_renumbered (K : PySem.W.Frag) : Sp := fun vs H Q _ => ∃ (v : V) (l : Addr) (n : Int) (ts : List (Int × Int)) (os : List Int), vs = [v, .ref l] ∧ IsW H v n ts ∧ WebOk n ts ∧ H l = some (.lst (os.map V.int)) ∧ OrdOk n os ∧
  ∀ w a xs H', H w = none → H a = none → Same H H' → H' w = some (.tup [.int n, .ref a]) → H' a = some (.lst xs) → Paired (Pr H') xs (rnT os ts) → Q (.ref w) H'
def t_renumbered (K : PySem.W.Frag) : TS := (tSeq (tDrop (tCall (sp_look_at_web K) [] E0 (tCons (tVar 0) tNil)))
    (tSeq (tIfS (tNot (tB (tCall (sp_is_all_places K) [] E0 (tCons (tVar 0) (tCons (tVar 1) tNil))))) tNever tNext)
    (tRet (tTupG (tCons (tOp (rIxT K) (tVar 0) (tC (.int 0))) (tCons (tCB (rSortedLT K) (tCons (tLc (iList K (tOp (rIxT K) (tVar 0) (tC (.int 1)))) (gTup K 2 (gCons (gName 2) (gCons (gName 3) gNil))) tYes (tCall (sp_tie_of K) [] E0 (tCons (tOp (rIxL K) (tVar 1) (tVar 2)) (tCons (tOp (rIxL K) (tVar 1) (tVar 3)) tNil))) [2, 3]) tNil)) tNil))))))
theorem objs_prs {H : Hp} {bs : List Addr} {us : List (Int × Int)} (hl : bs.length = us.length) (h : ∀ (i : Nat) b, bs[i]? = some b → H b = some (.tup [.int (us.getD i (0, 0)).1, .int (us.getD i (0, 0)).2])) : Paired (Pr H) (bs.map V.ref) us := by
  refine paired_of_getU (by rw [List.length_map]; exact hl) fun i x y e1 e2 => ?_
  rw [List.getElem?_map] at e1
  cases eb : bs[i]? with
  | none =>
    rw [eb] at e1
    cases e1
  | some b =>
    rw [eb] at e1
    have e1 : V.ref b = x := Option.some.inj e1
    subst e1
    have := h i b eb
    rw [List.getD_eq_getElem?_getD, e2] at this
    exact ⟨b, rfl, this⟩
theorem pure_renumbered {K : PySem.W.Frag} {vs : List V} {H : Hp} {Q : VK} {E : XK} (h : sp_renumbered K vs H Q E) : t_renumbered K (Fin Q) (start ["web", "numbers", "one", "other"] vs) H := by
  obtain ⟨v, l, n, ts, os, rfl, hw, W, hl, O, q⟩ := h
  have hsz : sizeLine = 16777216 := sizeLine_eq
  have few := W.few
  refine ⟨_, rfl, v, n, ts, rfl, hw, W, fun H1 s1 => ?_⟩
  refine ⟨_, rfl, _, rfl, v, l, n, ts, os, rfl, hw.mono s1, W, s1 _ _ hl, O, fun H2 s2 => ⟨_, rfl, iteF ?_⟩⟩
  have s12 := s1.trans s2
  obtain ⟨p, a, rfl, hp, xs, ha, hx⟩ := hw.mono s12
  have hxl := Paired.length hx
  have hl2 := s12 _ _ hl
  refine ⟨_, rfl, _, _, _, _, rfl, rfl, sqt hp, atI_nat (j := 0) rfl, _, rfl, _, _, _, _, rfl, rfl, sqt hp, atI_nat (j := 1) rfl, a, rfl, ⟨_, sql ha⟩, fun D nD => ?_⟩
  refine lc_objs (walk_list (xs := xs)) nD (fun i => .tup [.int ((ts.map (trT os)).getD i (0, 0)).1, .int ((ts.map (trT os)).getD i (0, 0)).2]) (by omega) (fun H3 s3 => sql (s3 _ _ ha)) (fun i x H3 H4 Nx Ny hi s3 y hN => ?_) (fun H3 bs s3 hD hbl nd hb => ?_)
  · obtain ⟨rfl, ex⟩ := y
    obtain ⟨t, et, b, rfl, hb⟩ := paired_get hx ex
    have g := W.good t (List.mem_of_getElem? et)
    have hl3 := s3 _ _ hl2
    have o1 := O.nm (i := t.1) (by omega) (by omega)
    have o2 := O.nm (i := t.2) (by omega) (by omega)
    refine ⟨b, _, rfl, sqt (s3 _ _ hb), rfl, _, _, rfl, _, _, rfl, rfl, rfl, ?_⟩
    refine ⟨_, rfl, _, rfl, _, _, _, _, rfl, rfl, sql hl3, o1.2.1, _, rfl, _, rfl, _, _, _, _, rfl, rfl, sql hl3, o2.2.1, _, _, rfl, fun T H5 nT s5 hT => hN T H5 nT s5 ?_⟩
    rw [List.getD_eq_getElem?_getD, List.getElem?_map, et]
    exact hT
  · have hP : IsP H3 D (ts.map (trT os)) := ⟨_, hD, objs_prs (by rw [List.length_map]; omega) fun i b e => (hb i b e).1⟩
    refine ⟨D, _, rfl, hP, fun r H4 zs nr s4 hr hz => ⟨by show 2 ≤ sizeLine; omega, fun w H5 nw s5 hw' => ?_⟩⟩
    have s13 := s12.trans s3
    exact q w r zs H5 (s13.free (s4.free nw)) (s13.free nr) (s13.trans (s4.trans s5)) hw' (s5 _ _ hr) (Prs.mono s5 hz)
/-- each place is told -/
def Sur (n : Int) (os : List Int) : Prop := ∀ k, 0 ≤ k → k < n → ∃ i, 0 ≤ i ∧ i < n ∧ nmO os i = k
theorem sur_of {n : Int} {os : List Int} (O : OrdOk n os) (pm : os.Perm ((List.range n.toNat).map (fun k => ((k : Nat) : Int)))) : Sur n os := fun k k0 k1 => by
  have m : k ∈ os := pm.mem_iff.mpr (List.mem_map.mpr ⟨k.toNat, List.mem_range.mpr (by omega), by omega⟩)
  obtain ⟨i, hi, e⟩ := List.mem_iff_getElem.mp m
  have hl := O.len
  refine ⟨(i : Int), by omega, by omega, ?_⟩
  unfold nmO
  rw [Int.toNat_natCast, List.getD_eq_getElem?_getD, List.getElem?_eq_getElem hi]
  exact e
def sp_turned_back (K : PySem.W.Frag) : Sp := fun vs H Q _ => ∃ (l : Addr) (n : Int) (os : List Int), vs = [.ref l] ∧ 1 ≤ n ∧ n ≤ 40 ∧ H l = some (.lst (os.map V.int)) ∧ OrdOk n os ∧ Sur n os ∧
  ∀ f bk H', H f = none → Same H H' → H' f = some (.lst (bk.map V.int)) → OrdOk n bk → (∀ i, 0 ≤ i → i < n → nmO bk (nmO os i) = i) → Q (.ref f) H'
def t_turned_back (K : PySem.W.Frag) : TS := (tSeq (tAsg (tOp rRepG (tLstG (tCons (tC (.int 0)) tNil)) (tCB (rLenSq K) (tCons (tVar 0) tNil))) (gName 1))
    (tSeq (tFor (iEnum K (tCons (tVar 0) tNil)) (gTup K 2 (gCons (gName 2) (gCons (gName 3) gNil))) (tAsg (tVar 2) (gSub (tVar 1) (tVar 3) rSetL)))
    (tRet (tVar 1))))
theorem map_set {α β : Type} (f : α → β) : ∀ (l : List α) (k : Nat) (x : α), (l.map f).set k (f x) = (l.set k x).map f
  | [], _, _ => rfl
  | _ :: _, 0, _ => rfl
  | y :: l, k + 1, x => by
    show f y :: (l.map f).set k (f x) = f y :: (l.set k x).map f
    rw [map_set f l k x]
theorem pure_turned_back {K : PySem.W.Frag} {vs : List V} {H : Hp} {Q : VK} {E : XK} (h : sp_turned_back K vs H Q E) : t_turned_back K (Fin Q) (start ["naming", "found", "place", "other"] vs) H := by
  obtain ⟨l, n, os, rfl, n1, n2, hl, O, S, q⟩ := h
  have hsz : sizeLine = 16777216 := sizeLine_eq
  have hol := O.len
  refine ⟨by show 1 ≤ sizeLine; omega, fun z H1 nz s1 hz => ?_⟩
  have hl1 := s1 _ _ hl
  refine ⟨_, rfl, l, _, rfl, .inl (sql hl1), ?_⟩
  rw [List.length_map]
  refine ⟨z, _, _, rfl, rfl, hz, by omega, by omega, by show 1 * _ ≤ sizeLine; omega, fun f H2 nf s2 hf => ?_⟩
  have s12 := s1.trans s2
  have hl2 := s12 _ _ hl
  have hf2 : H2 f = some (.lst ((List.replicate n.toNat (0 : Int)).map V.int)) := by
    rw [hf, rep_flat, hol, Int.toNat_natCast]
  have nlf : l ≠ f := ne_of_none hl1 nf
  refine ⟨_, rfl, l, _, rfl, sql hl2, for_it (n := (os.map V.int).length) walk_enum (fun i σ H3 => ∃ (bk : List Int) (v2 v3 : Option V), σ = [some (.ref l), some (.ref f), v2, v3] ∧ Same H1 H3 ∧ H3 f = some (.lst (bk.map V.int)) ∧ bk.length = n.toNat ∧ ∀ j : Nat, j < i → bk[(nmO os (j : Int)).toNat]? = some (j : Int))
    ⟨_, none, none, rfl, s2, hf2, by simp, fun j hj => by omega⟩ (fun i σ H3 _ ⟨_, _, _, _, s3, _⟩ => sql (s3 _ _ hl1)) ?_ ?_⟩
  · rintro i x σ H3 H4 hi ⟨bk, v2, v3, rfl, s3, hf3, hbl, hbk⟩ ⟨T, x1, x2, rfl, nT, rfl, e1, e2⟩
    rw [List.length_map] at hi
    have s4 : Same H3 (upd H3 T (.tup [x1, x2])) := same_new nT
    have o := O.nm (i := (i : Int)) (by omega) (by omega)
    have e1 : x1 = .int (i : Int) := (Option.some.inj e1).symm
    subst e1
    have e2 : (os.map V.int)[i]? = some x2 := e2
    have o1 := o.1
    rw [Int.toNat_natCast] at o1
    rw [List.getElem?_map, o1] at e2
    have e2 : x2 = .int (nmO os (i : Int)) := (Option.some.inj e2).symm
    subst e2
    refine ⟨T, _, rfl, sqt upd_same, rfl, _, _, rfl, _, _, rfl, rfl, ?_⟩
    refine ⟨_, rfl, _, rfl, _, rfl, f, _, nmO os (i : Int), (nmO os (i : Int)).toNat, rfl, rfl, s4 _ _ hf3, ?_, ?_⟩
    · rw [List.length_map]
      unfold ixN
      rw [if_pos (by omega), if_pos (by omega)]
    · refine ⟨bk.set (nmO os (i : Int)).toNat (i : Int), _, _, rfl, same_mut (s3.trans s4) nf, by rw [upd_same, map_set], by rw [List.length_set]; exact hbl, fun j hj => ?_⟩
      by_cases e : j = i
      · subst e
        rw [List.getElem?_set_self (by omega)]
      · have oj := O.nm (i := (j : Int)) (by omega) (by omega)
        have ne : (nmO os (i : Int)).toNat ≠ (nmO os (j : Int)).toNat := fun h => by
          have := O.inj (i := (i : Int)) (j := (j : Int)) (by omega) (by omega) (by omega) (by omega) (by omega)
          omega
        rw [List.getElem?_set_ne ne]
        exact hbk j (by omega)
  · rintro σ H3 ⟨bk, v2, v3, rfl, s3, hf3, hbl, hbk⟩
    rw [List.length_map] at hbk
    have inv : ∀ i, 0 ≤ i → i < n → nmO bk (nmO os i) = i := fun i i0 i1 => by
      have := hbk i.toNat (by omega)
      rw [show ((i.toNat : Nat) : Int) = i by omega] at this
      unfold nmO at this ⊢
      rw [List.getD_eq_getElem?_getD, this]
      rfl
    have gt : ∀ (k : Nat) x, bk[k]? = some x → ∃ i, 0 ≤ i ∧ i < n ∧ nmO os i = (k : Int) ∧ x = i := fun k x e => by
      have hk := (List.getElem?_eq_some_iff.mp e).1
      obtain ⟨i, i0, i1, ei⟩ := S (k : Int) (by omega) (by omega)
      refine ⟨i, i0, i1, ei, ?_⟩
      have := inv i i0 i1
      rw [ei] at this
      unfold nmO at this
      rw [Int.toNat_natCast, List.getD_eq_getElem?_getD, e] at this
      exact this
    refine ⟨_, rfl, q f bk H3 (s1.free nf) (s1.trans s3) hf3 ⟨hbl, ?_, fun x hx => ?_⟩ inv⟩
    · refine List.pairwise_iff_getElem.mpr fun i j hi hj hij e => ?_
      obtain ⟨u, _, _, eu, xu⟩ := gt i _ (List.getElem?_eq_getElem hi)
      obtain ⟨w, _, _, ew, xw⟩ := gt j _ (List.getElem?_eq_getElem hj)
      have uw : u = w := by
        rw [← xu, ← xw]
        exact e
      subst uw
      omega
    · obtain ⟨k, hk, e⟩ := List.mem_iff_getElem.mp hx
      obtain ⟨u, u0, u1, _, xu⟩ := gt k x (by rw [List.getElem?_eq_getElem hk, e])
      omega
def sp_behind (K : PySem.W.Frag) : Sp := fun vs H Q _ => ∃ (l m : Addr) (n : Int) (a b : List Int), vs = [.ref l, .ref m] ∧ 1 ≤ n ∧ n ≤ 40 ∧ H l = some (.lst (a.map V.int)) ∧ H m = some (.lst (b.map V.int)) ∧ OrdOk n a ∧ OrdOk n b ∧ Nw H (.lst ((a.map (nmO b)).map V.int)) Q
def t_behind (K : PySem.W.Frag) : TS := (tRet (tLc (iList K (tVar 0)) (gName 2) tYes (tOp (rIxL K) (tVar 1) (tVar 2)) [2]))
theorem ix_map {a : List Int} (f : Int → Int) : ((List.range a.length).map fun i => f (a.getD i 0)) = a.map f := by
  refine List.ext_getElem (by simp) fun i h1 h2 => ?_
  simp at h1
  simp [h1]
theorem pure_behind {K : PySem.W.Frag} {vs : List V} {H : Hp} {Q : VK} {E : XK} (h : sp_behind K vs H Q E) : t_behind K (Fin Q) (start ["first", "second", "place"] vs) H := by
  obtain ⟨l, m, n, a, b, rfl, n1, n2, hl, hm, A, B, q⟩ := h
  have hsz : sizeLine = 16777216 := sizeLine_eq
  have hal := A.len
  refine ⟨_, rfl, l, rfl, ⟨_, sql hl⟩, fun D nD => ?_⟩
  refine lc_ints (walk_list (xs := a.map V.int)) nD (fun i => nmO b (a.getD i 0)) (by rw [List.length_map]; omega) (fun H1 s1 => sql (s1 _ _ hl)) (fun i x H1 H2 Nx Ny hi s1 y hN => ?_) (fun H1 s1 hD => ?_)
  · obtain ⟨rfl, e⟩ := y
    rw [List.length_map] at hi
    rw [List.getElem?_map, List.getElem?_eq_getElem hi] at e
    have e : V.int a[i] = x := Option.some.inj e
    subst e
    have g := A.mem a[i] (List.getElem_mem hi)
    have o := B.nm (i := a[i]) g.1 g.2
    refine ⟨rfl, _, rfl, _, rfl, _, _, _, _, rfl, rfl, sql (s1 _ _ hm), o.2.1, ?_⟩
    have := hN H2 (Same.refl _)
    rw [show a.getD i 0 = a[i] by simp [hi]] at this
    exact this
  · rw [List.length_map, ix_map] at hD
    exact q D H1 nD s1 hD
theorem beh_ok {n : Int} {a b : List Int} (A : OrdOk n a) (B : OrdOk n b) : OrdOk n (a.map (nmO b)) ∧ ∀ i, 0 ≤ i → i < n → nmO (a.map (nmO b)) i = nmO b (nmO a i) := by
  refine ⟨⟨by rw [List.length_map]; exact A.len, List.pairwise_map.mpr ?_, fun x hx => ?_⟩, fun i i0 i1 => ?_⟩
  · refine (List.Pairwise.and_mem.mp A.nd).imp fun {x y} ⟨mx, my, ne⟩ e => ne ?_
    have gx := A.mem x mx
    have gy := A.mem y my
    exact B.inj gx.1 gx.2 gy.1 gy.2 e
  · obtain ⟨y, hy, rfl⟩ := List.mem_map.mp hx
    have g := A.mem y hy
    exact (B.nm g.1 g.2).2.2
  · have o := A.nm i0 i1
    have e : nmO (a.map (nmO b)) i = ((a.map (nmO b))[i.toNat]?).getD 0 := by
      unfold nmO
      rw [List.getD_eq_getElem?_getD]
    rw [e, List.getElem?_map, o.1]
    rfl
end G39

/-! law_k40_namings_turned: the law's own defs. -/
namespace G39
open PySem PySem.Spec PyProof.Rows L2
def sp_law_renumbered (K : PySem.W.Frag) : Sp := sp_renumbered K
def t_law_renumbered (K : PySem.W.Frag) : TS := (tSeq (tAsg (tLc (iList K (tOp (rIxT K) (tVar 0) (tC (.int 1)))) (gTup K 2 (gCons (gName 3) (gCons (gName 4) gNil))) tYes (tTupG (tCons (tCB rMin2 (tCons (tOp (rIxL K) (tVar 1) (tVar 3)) (tCons (tOp (rIxL K) (tVar 1) (tVar 4)) tNil))) (tCons (tCB rMax2 (tCons (tOp (rIxL K) (tVar 1) (tVar 3)) (tCons (tOp (rIxL K) (tVar 1) (tVar 4)) tNil))) tNil))) [3, 4]) (gName 2))
    (tRet (tTupG (tCons (tOp (rIxT K) (tVar 0) (tC (.int 0))) (tCons (tCB (rSortedLT K) (tCons (tVar 2) tNil)) tNil)))))
theorem pure_law_renumbered {K : PySem.W.Frag} {vs : List V} {H : Hp} {Q : VK} {E : XK} (h : sp_law_renumbered K vs H Q E) : t_law_renumbered K (Fin Q) (start ["_law_web_here", "_law_order", "_law_ties", "_law_one", "_law_other"] vs) H := by
  obtain ⟨v, l, n, ts, os, rfl, hw, W, hl2, O, q⟩ := h
  have hsz : sizeLine = 16777216 := sizeLine_eq
  have few := W.few
  obtain ⟨p, a, rfl, hp, xs, ha, hx⟩ := hw
  have hxl := Paired.length hx
  refine ⟨_, rfl, _, _, _, _, rfl, rfl, sqt hp, atI_nat (j := 1) rfl, a, rfl, ⟨_, sql ha⟩, fun D nD => ?_⟩
  refine lc_objs (walk_list (xs := xs)) nD (fun i => .tup [.int ((ts.map (trT os)).getD i (0, 0)).1, .int ((ts.map (trT os)).getD i (0, 0)).2]) (by omega) (fun H3 s3 => sql (s3 _ _ ha)) (fun i x H3 H4 Nx Ny hi s3 y hN => ?_) (fun H3 bs s3 hD hbl nd hb => ?_)
  · obtain ⟨rfl, ex⟩ := y
    obtain ⟨t, et, b, rfl, hb⟩ := paired_get hx ex
    have g := W.good t (List.mem_of_getElem? et)
    have hl3 := s3 _ _ hl2
    have o1 := O.nm (i := t.1) (by omega) (by omega)
    have o2 := O.nm (i := t.2) (by omega) (by omega)
    refine ⟨b, _, rfl, sqt (s3 _ _ hb), rfl, _, _, rfl, _, _, rfl, rfl, rfl, ?_⟩
    refine ⟨_, rfl, _, rfl, _, _, _, _, rfl, rfl, sql hl3, o1.2.1, _, rfl, _, rfl, _, _, _, _, rfl, rfl, sql hl3, o2.2.1, _, _, rfl, _, rfl, _, rfl, _, _, _, _, rfl, rfl, sql hl3, o1.2.1, _, rfl, _, rfl, _, _, _, _, rfl, rfl, sql hl3, o2.2.1, _, _, rfl, by show 2 ≤ sizeLine; omega, fun T H5 nT s5 hT => hN T H5 nT s5 ?_⟩
    rw [List.getD_eq_getElem?_getD, List.getElem?_map, et]
    exact hT
  · have hP : IsP H3 D (ts.map (trT os)) := ⟨_, hD, objs_prs (by rw [List.length_map]; omega) fun i b e => (hb i b e).1⟩
    refine ⟨_, rfl, _, _, _, _, rfl, rfl, sqt (s3 _ _ hp), atI_nat (j := 0) rfl, _, rfl, D, _, rfl, hP, fun r H4 zs nr s4 hr hz => ⟨by show 2 ≤ sizeLine; omega, fun w H5 nw s5 hw' => ?_⟩⟩
    exact q w r zs H5 (s3.free (s4.free nw)) (s3.free nr) (s3.trans (s4.trans s5)) hw' (s5 _ _ hr) (Prs.mono s5 hz)
theorem ints_sm {n : Int} {os : List Int} (O : OrdOk n os) (hn : n ≤ 40) : Sm 3000 (.list (os.map PyData.int)) := by
  have hl := O.len
  refine (Sm.list (b := 61) fun x hx => ?_).mono (by rw [List.length_map]; omega)
  obtain ⟨z, hz, rfl⟩ := List.mem_map.mp hx
  have g := O.mem z hz
  exact Sm.int (by omega)
theorem web_sm {n : Int} {ts : List (Int × Int)} (W : WebOk n ts) : Sm 40000 (webD n ts) := by
  have few := W.few
  have h1 := W.lo
  have h2 := W.hi
  have a : Sm 20000 (.list (ts.map prD)) := by
    refine (Sm.list (b := 129) fun x hx => ?_).mono (by rw [List.length_map]; omega)
    obtain ⟨t, ht, rfl⟩ := List.mem_map.mp hx
    have g := W.good t ht
    refine (Sm.tup (b := 61) fun y hy => ?_).mono (by simp)
    simp at hy
    rcases hy with rfl | rfl
    · exact Sm.int (by omega)
    · exact Sm.int (by omega)
  refine (Sm.tup (b := 19990) fun y hy => ?_).mono (by simp)
  simp at hy
  rcases hy with rfl | rfl
  · exact (Sm.int (by omega)).mono (by omega)
  · refine ⟨?_, a.2⟩
    have b : Sm 15722 (.list (ts.map prD)) := by
      refine (Sm.list (b := 129) fun x hx => ?_).mono (by rw [List.length_map]; omega)
      obtain ⟨t, ht, rfl⟩ := List.mem_map.mp hx
      have g := W.good t ht
      refine (Sm.tup (b := 61) fun y hy => ?_).mono (by simp)
      simp at hy
      rcases hy with rfl | rfl
      · exact Sm.int (by omega)
      · exact Sm.int (by omega)
    have := b.1
    omega
abbrev allD (n : Int) (ts : List (Int × Int)) (a b : List Int) : PyData := .list [webD n ts, .list (a.map PyData.int), .list (b.map PyData.int)]
theorem all_sm {n : Int} {ts : List (Int × Int)} {a b : List Int} (W : WebOk n ts) (A : OrdOk n a) (B : OrdOk n b) : Sm 200000 (allD n ts a b) := by
  refine (Sm.list (b := 40000) fun x hx => ?_).mono (by simp)
  simp at hx
  rcases hx with rfl | rfl | rfl
  · exact web_sm W
  · exact (ints_sm A W.hi).mono (by omega)
  · exact (ints_sm B W.hi).mono (by omega)
theorem shaped_parts {d : PyData} (h : SeqAt.shaped d = true) : PyData.canLay0 d = true ∧ PyData.depth d ≤ 64 := by
  unfold SeqAt.shaped at h
  simpa using h
theorem shaped_all (n : Int) (ts : List (Int × Int)) (a b : List Int) : SeqAt.shaped (allD n ts a b) = true := by
  have h1 : PyData.canLay0 (allD n ts a b) = true := by
    show (PyData.canLay0 (webD n ts) && (PyData.canLay0 (.list (a.map PyData.int)) && (PyData.canLay0 (.list (b.map PyData.int)) && true))) = true
    rw [(shaped_parts (shaped_web n ts)).1, (shaped_parts (shaped_ints a)).1, (shaped_parts (shaped_ints b)).1]
    rfl
  have h2 : PyData.depth (allD n ts a b) ≤ 64 := by
    have e : PyData.depth (allD n ts a b) = max (max 0 (max (PyData.depthAll (ts.map prD) + 1) 0) + 1) (max (PyData.depthAll (a.map PyData.int) + 1) (max (PyData.depthAll (b.map PyData.int) + 1) 0)) + 1 := rfl
    have := depth_prs ts
    rw [depth_ints, depth_ints] at e
    omega
  unfold SeqAt.shaped
  rw [h1, decide_eq_true h2]
  rfl
theorem isw_gh {p w a : Addr} {H : Hp} {n : Int} {ts : List (Int × Int)} {xs : List V} (P : Pool H p) (nap : a ≠ p) (hw : H w = some (.tup [.int n, .ref a])) (ha : H a = some (.lst xs)) (hx : Paired (Pr H) xs ts) : IsW (gh p H) (.ref w) n ts := by
  obtain ⟨g, z, e⟩ := P
  have tp : ∀ b u, H b = some (.tup u) → gh p H b = some (.tup u) := fun b u h => by
    rw [gh_ne (ne_of h e (by intro q; cases q))]
    exact h
  exact ⟨w, a, rfl, tp _ _ hw, xs, by rw [gh_ne nap]; exact ha, Paired.mapP hx fun _ _ ⟨b, e1, e2⟩ => ⟨b, e1, tp _ _ e2⟩⟩
theorem bk_list {n : Int} {os bk : List Int} (O : OrdOk n os) (B : OrdOk n bk) : ((List.range n.toNat).map fun i => nmO bk ((i : Nat) : Int)) = bk := by
  refine List.ext_getElem (by simp; exact B.len.symm) fun i h1 h2 => ?_
  simp [nmO, h2]
theorem nmO_ext {n : Int} {a b : List Int} (A : OrdOk n a) (B : OrdOk n b) (h : ∀ i, 0 ≤ i → i < n → nmO a i = nmO b i) : a = b := by
  rw [← bk_list A A, ← bk_list B B]
  refine List.map_congr_left fun i hi => ?_
  rw [List.mem_range] at hi
  exact h _ (by omega) (by omega)
def sp_law_right (K : PySem.W.Frag) : Sp := fun vs H Q _ => ∃ p : Addr, vs = [.ref p] ∧ Pool H p ∧ ∀ H', Same (gh p H) H' → Q (.bl true) H'
def t_law_right (K : PySem.W.Frag) : TS := (tSeq (tAsg (tCall (sp_bloose K) [] E0 (tCons (tVar 0) (tCons (tOp (rIxL K) (tLstG (tCons (tC (.int 1)) (tCons (tC (.int 2)) (tCons (tC (.int 5)) (tCons (tC (.int 9)) (tCons (tC (.int 40)) tNil)))))) (tCall (sp_btake K) [] E0 (tCons (tVar 0) (tCons (tC (.int 5)) tNil)))) (tCons (tC (.int 8)) tNil)))) (gName 1))
    (tSeq (tAsg (tCall (sp_bshuf K) [] E0 (tCons (tVar 0) (tCons (tOp (rIxT K) (tVar 1) (tC (.int 0))) tNil))) (gName 2))
    (tSeq (tAsg (tCall (sp_bshuf K) [] E0 (tCons (tVar 0) (tCons (tOp (rIxT K) (tVar 1) (tC (.int 0))) tNil))) (gName 3))
    (tSeq (tAsg (tCB (rRepr K) (tCons (tLstG (tCons (tVar 1) (tCons (tVar 2) (tCons (tVar 3) tNil)))) tNil)) (gName 4))
    (tSeq (tAsg (tCall (sp_renumbered K) [] E0 (tCons (tVar 1) (tCons (tVar 2) tNil))) (gName 5))
    (tSeq (tIfS (tOr (tTest (tOp rNe (tCB (rRepr K) (tCons (tVar 5) tNil)) (tCB (rRepr K) (tCons (tCall (sp_law_renumbered K) [] E0 (tCons (tVar 1) (tCons (tVar 2) tNil))) tNil)))) (tTest (tOp rNotBb (tCallK (sp_lets_naming K) (fun vs zs => match vs, zs with | [a0, a1], [k0] => [a0, a1, k0] | _, _ => []) E0 (tCons (tVar 1) (tCons (tVar 5) tNil)) (tCons (tVar 2) tNil)) (tC (.bl true))))) (tRet (tC (.bl false))) tNext)
    (tSeq (tAsg (tCall (sp_turned_back K) [] E0 (tCons (tVar 2) tNil)) (gName 6))
    (tSeq (tIfS (tOr (tTest (tOp rNe (tCB (rRepr K) (tCons (tVar 6) tNil)) (tCB (rRepr K) (tCons (tLc (iRng1 (tCons (tOp (rIxT K) (tVar 1) (tC (.int 0))) tNil)) (gName 8) tYes (tBM K "list" (rIndex K) (tVar 2) (tCons (tVar 8) tNil)) [8]) tNil)))) (tTest (tOp (rNeD K) (tCall (sp_renumbered K) [] E0 (tCons (tVar 5) (tCons (tVar 6) tNil))) (tVar 1)))) (tRet (tC (.bl false))) tNext)
    (tSeq (tAsg (tCall (sp_behind K) [] E0 (tCons (tVar 2) (tCons (tVar 3) tNil))) (gName 7))
    (tSeq (tIfS (tOr (tTest (tOp rNe (tCB (rRepr K) (tCons (tVar 7) tNil)) (tCB (rRepr K) (tCons (tLc (iList K (tVar 2)) (gName 8) tYes (tOp (rIxL K) (tVar 3) (tVar 8)) [8]) tNil)))) (tTest (tOp (rNeD K) (tCall (sp_renumbered K) [] E0 (tCons (tVar 5) (tCons (tVar 3) tNil))) (tCall (sp_renumbered K) [] E0 (tCons (tVar 1) (tCons (tVar 7) tNil)))))) (tRet (tC (.bl false))) tNext)
    (tSeq (tIfS (tOr (tTest (tOp (rNeD K) (tCall (sp_behind K) [] E0 (tCons (tVar 2) (tCons (tVar 6) tNil))) (tLstRgG (tRg1 (tOp (rIxT K) (tVar 1) (tC (.int 0))))))) (tTest (tOp (rNeD K) (tCall (sp_turned_back K) [] E0 (tCons (tVar 6) tNil)) (tVar 2)))) (tRet (tC (.bl false))) tNext)
    (tSeq (tDrop (tBM K "list" rAppend (tOp (rIxT K) (tVar 5) (tC (.int 1))) (tCons (tTupG (tCons (tC (.int 0)) (tCons (tC (.int 0)) tNil))) tNil)))
    (tSeq (tDrop (tBM K "list" rAppend (tVar 6) (tCons (tC (.int 0)) tNil)))
    (tSeq (tDrop (tBM0 K "list" rClear (tVar 7)))
    (tRet (tOp rEq (tCB (rRepr K) (tCons (tLstG (tCons (tVar 1) (tCons (tVar 2) (tCons (tVar 3) tNil)))) tNil)) (tVar 4)))))))))))))))))
theorem pure_law_right {K : PySem.W.Frag} {vs : List V} {H : Hp} {Q : VK} {E : XK} (h : sp_law_right K vs H Q E) : t_law_right K (Fin Q) (start ["_law_pool_here", "_law_web_here", "_law_first", "_law_second", "_law_handed", "_law_other", "_law_back", "_law_both", "_law_place"] vs) H := by
  obtain ⟨p, rfl, P0, q⟩ := h
  have hsz : sizeLine = 16777216 := sizeLine_eq
  -- the web
  refine ⟨_, rfl, by show 5 ≤ sizeLine; omega, fun lz H1 nlz s1 hlz => ?_⟩
  have nlzp : lz ≠ p := P0.ne nlz
  refine ⟨_, rfl, p, 5, rfl, P0.mono s1, by decide, by decide, fun r o r0 r1 P2 => ?_⟩
  obtain ⟨most, em, b1, b2⟩ : ∃ most : Int, atI ([.int 1, .int 2, .int 5, .int 9, .int 40] : List V) r = some (.int most) ∧ 1 ≤ most ∧ most ≤ 40 := by
    have c : r = 0 ∨ r = 1 ∨ r = 2 ∨ r = 3 ∨ r = 4 := by omega
    rcases c with rfl | rfl | rfl | rfl | rfl
    · exact ⟨1, rfl, by decide, by decide⟩
    · exact ⟨2, rfl, by decide, by decide⟩
    · exact ⟨5, rfl, by decide, by decide⟩
    · exact ⟨9, rfl, by decide, by decide⟩
    · exact ⟨40, rfl, by decide, by decide⟩
  have hlz2 : (upd H1 p o) lz = some (.lst [.int 1, .int 2, .int 5, .int 9, .int 40]) := by rw [upd_ne nlzp]; exact hlz
  have g2 : Same (gh p H) (gh p (upd H1 p o)) := gh_pool (gh_mono s1)
  generalize upd H1 p o = H2 at P2 hlz2 g2
  refine ⟨_, _, _, _, rfl, rfl, sql hlz2, em, p, most, 8, rfl, P2, b1, b2, by decide, by omega, fun n ts w a xs H3 W nm P3 s3 nw na hw ha hx => ?_⟩
  have nap : a ≠ p := P2.ne na
  have I3 := isw_gh P3 nap hw ha hx
  have n1 := W.lo
  have n2 := W.hi
  -- first, second
  refine ⟨_, rfl, _, rfl, _, _, _, _, rfl, rfl, sqt hw, atI_nat (j := 0) rfl, p, n, rfl, P3, n1, n2, fun f1 H4 A nf1 P4 s4 hf1 OA pmA => ?_⟩
  have hw4 : H4 w = some (.tup [.int n, .ref a]) := by
    obtain ⟨w', a', e, h', _⟩ := I3.mono (s4.trans gh_same)
    have e := V.ref.inj e
    subst e
    have h0 : gh p H3 w = some (.tup [.int n, .ref a]) := by
      rw [gh_ne (P2.ne nw)]
      exact hw
    exact (gh_of (s4 _ _ h0)).2
  refine ⟨_, rfl, _, rfl, _, _, _, _, rfl, rfl, sqt hw4, atI_nat (j := 0) rfl, p, n, rfl, P4, n1, n2, fun f2 H5 B nf2 P5 s5 hf2 OB pmB => ?_⟩
  have nf1p : f1 ≠ p := P3.ne nf1
  have hf1' : H5 f1 = some (.lst (A.map V.int)) := (gh_of (s5 _ _ (by rw [gh_ne nf1p]; exact hf1))).2
  have I5 : IsW H5 (.ref w) n ts := I3.mono (s4.trans (s5.trans gh_same))
  have gA : Same (gh p H) H5 := g2.trans (s3.trans (s4.trans (s5.trans gh_same)))
  have SA := sur_of OA pmA
  clear hf1 hw4 hw ha hx I3 s5 s4 s3 g2 hlz2 P2 P3 P4
  -- handed
  have dall : ∀ {lh : Addr} {Hh : Hp}, Same H5 Hh → Hh lh = some (.lst [.ref w, .ref f1, .ref f2]) → Dp K Hh (.ref lh) (allD n ts A B) := fun s hh => .lst (sql hh) (.cons (I5.mono s).dp (.cons (ints_dp (sql (s _ _ hf1'))) (.cons (ints_dp (sql (s _ _ hf2))) .nil)))
  have zall := all_sm W OA OB
  refine ⟨_, rfl, _, rfl, _, rfl, by show 3 ≤ sizeLine; omega, fun lh H6 nlh s6 hlh => ?_⟩
  refine ⟨lh, _, rfl, dall s6 hlh, shaped_all _ _ _ _, zall.2, by have := zall.1; omega, ?_⟩
  -- other
  refine ⟨_, rfl, _, rfl, _, f1, n, ts, A, rfl, I5.mono s6, W, s6 _ _ hf1', OA, fun w7 a7 xs7 H7 nw7 na7 s7 hw7 ha7 hx7 => ?_⟩
  have s57 := s6.trans s7
  have I7 : IsW H7 (.ref w7) n (rnT A ts) := ⟨w7, a7, rfl, hw7, xs7, ha7, hx7⟩
  have W7 := rn_ok W OA
  have z7 := web_sm W7
  have z7l : (webD n (rnT A ts)).shown.length ≤ sizeLine := by have := z7.1; omega
  refine ⟨_, rfl, w7, _, rfl, I7.dp, shaped_web _ _, z7.2, z7l, ?_⟩
  refine ⟨_, rfl, _, rfl, _, f1, n, ts, A, rfl, I5.mono s57, W, s57 _ _ hf1', OA, fun w8 a8 xs8 H8 nw8 na8 s8 hw8 ha8 hx8 => ?_⟩
  have I8 : IsW H8 (.ref w8) n (rnT A ts) := ⟨w8, a8, rfl, hw8, xs8, ha8, hx8⟩
  refine ⟨w8, _, rfl, I8.dp, shaped_web _ _, z7.2, z7l, rfl, _, rfl, iteNS rfl ?_⟩
  have s58 := s57.trans s8
  refine ⟨_, rfl, _, rfl, _, rfl, _, _, f1, n, ts, A, rfl, I5.mono s58, W, I7.mono s8, s58 _ _ hf1', OA, fun H9 s9 => ⟨_, _, rfl, rfl, _, rfl, iteF ?_⟩⟩
  have s59 := s58.trans s9
  have s79 := s8.trans s9
  -- back
  refine ⟨_, rfl, f1, n, A, rfl, n1, n2, s59 _ _ hf1', OA, SA, fun bk C H10 nbk s10 hbk OC inv => ?_⟩
  have s510 := s59.trans s10
  have s710 := s79.trans s10
  have SC : Sur n C := fun k k0 k1 => ⟨nmO A k, (OA.nm k0 k1).2.2.1, (OA.nm k0 k1).2.2.2, inv k k0 k1⟩
  have inv2 : ∀ k, 0 ≤ k → k < n → nmO A (nmO C k) = k := fun k k0 k1 => by
    obtain ⟨i, i0, i1, e⟩ := SA k k0 k1
    rw [← e, inv i i0 i1]
  have zc := ints_sm OC n2
  refine ⟨_, rfl, bk, _, rfl, ints_dp (sql hbk), shaped_ints _, zc.2, by have := zc.1; omega, ?_⟩
  obtain ⟨_, _, ew, hwt, _⟩ := id (I5.mono s510)
  have ew := V.ref.inj ew
  subst ew
  refine ⟨_, rfl, _, _, _, _, rfl, rfl, sqt hwt, atI_nat (j := 0) rfl, n, rfl, by omega, by omega, fun D nD => ?_⟩
  have hf110 := s510 _ _ hf1'
  refine lc_ints walk_rng0 nD (fun i => nmO C ((i : Nat) : Int)) (by omega) (fun _ _ => trivial) (fun i x Ha Hb Nx Ny hi sa y hN => ?_) (fun H11 s11 hD => ?_)
  · obtain ⟨rfl, rfl⟩ := y
    have c := OC.nm (i := (i : Int)) (by omega) (by omega)
    have e := inv2 (i : Int) (by omega) (by omega)
    have o := OA.nm (i := nmO C (i : Int)) c.2.2.1 c.2.2.2
    rw [e] at o
    have hfa := sa _ _ hf110
    refine ⟨rfl, _, rfl, tyl hfa, _, rfl, f1, A.map V.int, .int (i : Int), (nmO C (i : Int)).toNat, .int (i : Int), rfl, rfl, sql hfa, rfl, ?_, map_int_get o.1, ?_, fun m z' hm hz' => ?_, ?_⟩
    · rw [List.all_map, List.all_eq_true]
      intro x _
      rfl
    · simp [eqV]
    · rw [List.getElem?_map] at hz'
      cases ez : A[m]? with
      | none =>
        rw [ez] at hz'
        cases hz'
      | some z =>
        rw [ez] at hz'
        have hz' : V.int z = z' := Option.some.inj hz'
        subst hz'
        have ne : z ≠ (i : Int) := fun q => by
          subst q
          have := nd_ix OA.nd ez o.1
          omega
        simp [eqV, ne]
    · have := hN Hb (Same.refl _)
      rw [show (((nmO C (i : Int)).toNat : Nat) : Int) = nmO C (i : Int) by have := c.2.2.1; omega]
      exact this
  rw [bk_list OC OC] at hD
  refine ⟨D, _, rfl, ints_dp (sql hD), shaped_ints _, zc.2, by have := zc.1; omega, rfl, _, rfl, iteNS rfl ?_⟩
  have s511 := s510.trans s11
  have s711 := s710.trans s11
  refine ⟨_, rfl, _, rfl, _, bk, n, rnT A ts, C, rfl, I7.mono s711, W7, s11 _ _ hbk, OC, fun w12 a12 xs12 H12 nw12 na12 s12 hw12 ha12 hx12 => ?_⟩
  rw [rn_back W OA OC inv] at hx12
  have I12 : IsW H12 (.ref w12) n ts := ⟨w12, a12, rfl, hw12, xs12, ha12, hx12⟩
  have s512 := s511.trans s12
  have s712 := s711.trans s12
  refine ⟨_, rfl, _, _, I12.dp, (I5.mono s512).dp, shaped_web _ _, shaped_web _ _, _, rfl, ?_⟩
  rw [eqv_web, decide_eq_true ⟨rfl, rfl⟩]
  refine iteF ?_
  -- both
  have hbk12 := s12 _ _ (s11 _ _ hbk)
  refine ⟨_, rfl, _, rfl, f1, f2, n, A, B, rfl, n1, n2, s512 _ _ hf1', s512 _ _ hf2, OA, OB, fun bo H13 nbo s13 hbo => ?_⟩
  obtain ⟨OD, eD⟩ := beh_ok OA OB
  have zd := ints_sm OD n2
  have s513 := s512.trans s13
  have s713 := s712.trans s13
  refine ⟨_, rfl, bo, _, rfl, ints_dp (sql hbo), shaped_ints _, zd.2, by have := zd.1; omega, ?_⟩
  have hf113 := s513 _ _ hf1'
  have hf213 := s513 _ _ hf2
  have hal := OA.len
  refine ⟨_, rfl, f1, rfl, ⟨_, sql hf113⟩, fun D2 nD2 => ?_⟩
  refine lc_ints (walk_list (xs := A.map V.int)) nD2 (fun i => nmO B (A.getD i 0)) (by rw [List.length_map]; omega) (fun H1 s1 => sql (s1 _ _ hf113)) (fun i x H1 H2 Nx Ny hi s1 y hN => ?_) (fun H14 s14 hD2 => ?_)
  · obtain ⟨rfl, e⟩ := y
    rw [List.length_map] at hi
    rw [List.getElem?_map, List.getElem?_eq_getElem hi] at e
    have e : V.int A[i] = x := Option.some.inj e
    subst e
    have g := OA.mem A[i] (List.getElem_mem hi)
    have o := OB.nm (i := A[i]) g.1 g.2
    refine ⟨rfl, _, rfl, _, rfl, _, _, _, _, rfl, rfl, sql (s1 _ _ hf213), o.2.1, ?_⟩
    have := hN H2 (Same.refl _)
    rw [show A.getD i 0 = A[i] by simp [hi]] at this
    exact this
  rw [List.length_map, ix_map] at hD2
  refine ⟨D2, _, rfl, ints_dp (sql hD2), shaped_ints _, zd.2, by have := zd.1; omega, rfl, _, rfl, iteNS rfl ?_⟩
  have s514 := s513.trans s14
  have s714 := s713.trans s14
  refine ⟨_, rfl, _, rfl, _, f2, n, rnT A ts, B, rfl, I7.mono s714, W7, s514 _ _ hf2, OB, fun w15 a15 xs15 H15 nw15 na15 s15 hw15 ha15 hx15 => ?_⟩
  rw [rn_both W OA OB OD eD] at hx15
  have I15 : IsW H15 (.ref w15) n (rnT (A.map (nmO B)) ts) := ⟨w15, a15, rfl, hw15, xs15, ha15, hx15⟩
  have s515 := s514.trans s15
  have s715 := s714.trans s15
  refine ⟨_, rfl, _, rfl, _, bo, n, ts, _, rfl, I5.mono s515, W, s15 _ _ (s14 _ _ hbo), OD, fun w16 a16 xs16 H16 nw16 na16 s16 hw16 ha16 hx16 => ?_⟩
  have I16 : IsW H16 (.ref w16) n (rnT (A.map (nmO B)) ts) := ⟨w16, a16, rfl, hw16, xs16, ha16, hx16⟩
  refine ⟨_, _, (I15.mono s16).dp, I16.dp, shaped_web _ _, shaped_web _ _, _, rfl, ?_⟩
  rw [eqv_web, decide_eq_true ⟨rfl, rfl⟩]
  refine iteF ?_
  have s516 := s515.trans s16
  have s716 := s715.trans s16
  have s1216 : Same H12 H16 := s13.trans (s14.trans (s15.trans s16))
  have hbk16 := s1216 _ _ hbk12
  -- behind(first, back), turned_back(back)
  refine ⟨_, rfl, _, rfl, f1, bk, n, A, C, rfl, n1, n2, s516 _ _ hf1', hbk16, OA, OC, fun bb H17 nbb s17 hbb => ?_⟩
  have s517 := s516.trans s17
  obtain ⟨_, _, ew2, hwt2, _⟩ := id (I5.mono s517)
  have ew2 := V.ref.inj ew2
  subst ew2
  refine ⟨_, rfl, _, _, _, _, rfl, rfl, sqt hwt2, atI_nat (j := 0) rfl, n, rfl, RgOk.of_le (by omega) (by omega) (by omega) (by omega), fun rg H18 nrg s18 hrg => ?_⟩
  rw [rgV_ints] at hrg
  have erg : A.map (nmO C) = (List.range n.toNat).map (fun k => ((k : Nat) : Int)) := by
    refine List.ext_getElem (by simp; exact hal) fun i h1 h2 => ?_
    simp at h1 h2
    have := inv (i : Int) (by omega) (by omega)
    have o := (OA.nm (i := (i : Int)) (by omega) (by omega)).1
    rw [Int.toNat_natCast, List.getElem?_eq_getElem h1] at o
    have o := Option.some.inj o
    simp only [List.getElem_map, List.getElem_range]
    rw [o]
    exact this
  refine ⟨_, _, ints_dp (sql (s18 _ _ hbb)), ints_dp (sql hrg), shaped_ints _, shaped_ints _, _, rfl, ?_⟩
  rw [eqv_ints, decide_eq_true erg]
  refine iteF ?_
  have s518 := s517.trans s18
  have s718 := s716.trans (s17.trans s18)
  have hbk18 := s18 _ _ (s17 _ _ hbk16)
  refine ⟨_, rfl, bk, n, C, rfl, n1, n2, hbk18, OC, SC, fun b2 F H19 nb2 s19 hb2 OF invF => ?_⟩
  have eF : F = A := nmO_ext OF OA fun i i0 i1 => by
    have := invF (nmO A i) (OA.nm i0 i1).2.2.1 (OA.nm i0 i1).2.2.2
    rw [inv i i0 i1] at this
    exact this
  subst eF
  have s519 := s518.trans s19
  have s719 := s718.trans s19
  refine ⟨_, rfl, _, _, ints_dp (sql hb2), ints_dp (sql (s519 _ _ hf1')), shaped_ints _, shaped_ints _, _, rfl, ?_⟩
  rw [eqv_ints, decide_eq_true rfl]
  refine iteF ?_
  -- changes
  have hw719 := s719 _ _ hw7
  have ha719 := s719 _ _ ha7
  have few := W.few
  have hx7l := Paired.length hx7
  rw [rn_len] at hx7l
  refine ⟨_, rfl, _, _, _, _, rfl, rfl, sqt hw719, atI_nat (j := 1) rfl, tyl ha719, by show 2 ≤ sizeLine; omega, fun T H20 nT s20 hT => ?_⟩
  refine ⟨a7, xs7, _, rfl, rfl, s20 _ _ ha719, by omega, ?_⟩
  have s5a : Same H5 (upd H20 a7 (.lst (xs7 ++ [.ref T]))) := same_mut (s519.trans s20) (s6.free na7)
  have nbka : bk ≠ a7 := fun e => by
    rw [e, s79 _ _ ha7] at nbk
    cases nbk
  have hbk20 : (upd H20 a7 (.lst (xs7 ++ [.ref T]))) bk = some (.lst (C.map V.int)) := by
    rw [upd_ne nbka]
    exact s20 _ _ (s19 _ _ hbk18)
  have nboa : bo ≠ a7 := fun e => by
    rw [e, s712 _ _ ha7] at nbo
    cases nbo
  have nbobk : bo ≠ bk := fun e => by
    rw [e, hbk12] at nbo
    cases nbo
  have hbo20 : (upd H20 a7 (.lst (xs7 ++ [.ref T]))) bo = some (.lst ((F.map (nmO B)).map V.int)) := by
    rw [upd_ne nboa]
    exact s20 _ _ (s19 _ _ (s18 _ _ (s17 _ _ (s16 _ _ (s15 _ _ (s14 _ _ hbo))))))
  have hcl := OC.len
  generalize upd H20 a7 (.lst (xs7 ++ [.ref T])) = H21 at s5a hbk20 hbo20
  refine ⟨_, rfl, tyl hbk20, bk, _, _, rfl, rfl, hbk20, by rw [List.length_map]; omega, ?_⟩
  have s5b : Same H5 (upd H21 bk (.lst (C.map V.int ++ [.int 0]))) := same_mut s5a (s59.free nbk)
  have hbo21 : (upd H21 bk (.lst (C.map V.int ++ [.int 0]))) bo = some (.lst ((F.map (nmO B)).map V.int)) := by
    rw [upd_ne nbobk]
    exact hbo20
  generalize upd H21 bk (.lst (C.map V.int ++ [.int 0])) = H22 at s5b hbo21
  refine ⟨_, rfl, tyl hbo21, bo, _, rfl, rfl, hbo21, ?_⟩
  have s5c : Same H5 (upd H22 bo (.lst [])) := same_mut s5b (s512.free nbo)
  generalize upd H22 bo (.lst []) = H23 at s5c
  refine ⟨_, rfl, _, rfl, _, rfl, by show 3 ≤ sizeLine; omega, fun lk H24 nlk s24 hlk => ?_⟩
  refine ⟨lk, _, rfl, dall (s5c.trans s24) hlk, shaped_all _ _ _ _, zall.2, by have := zall.1; omega, _, rfl, rfl, ?_⟩
  have := q H24 (gA.trans (s5c.trans s24))
  rw [decide_eq_true rfl]
  exact this
/-! the law -/
def sp_law (K : PySem.W.Frag) : Sp := fun vs H Q _ => ∃ (a : Addr) (ns : List Int), vs = [.ref a] ∧ SqL K H a (ns.map V.int) ∧ ns.length ≤ 63 ∧ ∀ H', Q (.bl true) H'
def t_law (K : PySem.W.Frag) : TS := (tSeq (tFor (iRng1 (tCons (tCB rMax2 (tCons (tC (.int 1)) (tCons (tCB rMin2 (tCons (tCB (rLenSq K) (tCons (tVar 0) tNil)) (tCons (tC (.int 10)) tNil))) tNil))) tNil)) (gName 1) (tIfS (tNot (tB (tCall (sp_law_right K) [] E0 (tCons (tCall (sp_bpool K) [] E0 (tCons (tVar 0) (tCons (tVar 1) tNil))) tNil)))) (tRet (tC (.bl false))) tNext))
    (tRet (tC (.bl true))))
theorem pure_law {K : PySem.W.Frag} {vs : List V} {H : Hp} {Q : VK} {E : XK} (h : sp_law K vs H Q E) : t_law K (Fin Q) (start ["_law_script", "_law_k"] vs) H := by
  obtain ⟨a, ns, rfl, ha, hl, q⟩ := h
  refine ⟨_, rfl, _, _, rfl, .inl ha, _, _, rfl, 1, _, rfl, ?_⟩
  obtain ⟨m, hm⟩ : ∃ m : Int, m = (if (if (10 : Int) < ((ns.map V.int).length : Int) then 10 else ((ns.map V.int).length : Int)) > 1 then (if (10 : Int) < ((ns.map V.int).length : Int) then 10 else ((ns.map V.int).length : Int)) else 1) := ⟨_, rfl⟩
  have hm1 : 1 ≤ m ∧ m ≤ 63 := by
    rw [hm, List.length_map]
    split <;> split <;> omega
  rw [← hm]
  refine ⟨m, rfl, by omega, by omega, ?_⟩
  refine for_range (lo := 0) (n := m.toNat) (fun i σ H2 => ∃ (v1 : Option V), σ = [some (.ref a), v1] ∧ Same H H2) ⟨none, rfl, Same.refl _⟩ ?_ ?_
  · rintro i σ H1 hi ⟨v1, rfl, s1⟩
    refine ⟨_, rfl, _, rfl, a, ns, 0 + (i : Int), rfl, s1.seq ha, by omega, by omega, fun p H2 np s2 P2 => ?_⟩
    refine ⟨p, rfl, P2, fun H3 s3 => ⟨_, rfl, iteF ⟨_, rfl, fun b o e => ?_⟩⟩⟩
    have e1 := s1 _ _ e
    exact s3 _ _ (by rw [gh_ne (ne_of_none e1 np)]; exact s2 _ _ e1)
  · rintro σ H1 ⟨v1, rfl, s1⟩
    exact q H1
end G39

namespace G39.Lw
open PySem PySem.Spec PyProof.Rows L2
def topS (i : Nat) : Stmt := PySem.Challenge.pw_webtimes_k40_namings_turned.main.body.getD i (.Pass ⟨0, 0, 0, 0⟩)
structure Blt (mg : Str → Option Value) : Prop where
  b_list : mg "list" = none
  b_range : mg "range" = none
  b_len : mg "len" = none
  b_max : mg "max" = none
  b_min : mg "min" = none
  b_sorted : mg "sorted" = none
  b_int : mg "int" = none
  b_isinstance : mg "isinstance" = none
  b_bool : mg "bool" = none
  b_tuple : mg "tuple" = none
  b_enumerate : mg "enumerate" = none
  b_all : mg "all" = none
  b_set : mg "set" = none
  b_dict : mg "dict" = none
  b_repr : mg "repr" = none
  g_MOST_PLACES : ∃ t, mg "MOST_PLACES" = some (.int 40 t)
  g_MOST_TIES : ∃ t, mg "MOST_TIES" = some (.int 120 t)
section
variable {P : Program} {w : World} {K : PySem.W.Frag} {mg : Str → Option Value} {base : Heap}
abbrev s_btake : Stmt := topS 23
abbrev n_btake : List Str := ["_law_pool_here", "_law_many", "_law_found"]
theorem sc_btake : FnScope n_btake ["_law_pool_here", "_law_many"] (defScope s_btake) := ⟨rfl, rfl, rfl, by decide +kernel, rfl, by decide +kernel, by decide +kernel⟩
theorem ok_btake {f : Addr} {fd : FuncData} (F : Fun K "_law_take" "_law_take" s_btake f fd) (B : Blt mg)  : FnG P w K mg base CX0 1 f fd ["_law_pool_here", "_law_many"] (sp_btake K) := by
  refine okG F sc_btake (fun vs H Q E h => ?_) (fun cdv A outer s H vs Q E hr gd h => ⟨(tSeq (tIfS (tTest (tOp rGt (tOp (rIxL K) (tVar 0) (tC (.int 0))) (tC (.int 0)))) (tSeq (tAsg (tOp rMod (tOp (rIxL K) (tVar 0) (tC (.int 0))) (tVar 1)) (gName 2))
    (tSeq (tAsg (tOp rDiv (tOp (rIxL K) (tVar 0) (tC (.int 0))) (tVar 1)) (gSub (tVar 0) (tC (.int 0)) rSetL))
    (tRet (tVar 2)))) tNext)
    (tSeq (tAsg (tOp rMod (tOp rAdd (tOp rMul (tOp (rIxL K) (tVar 0) (tC (.int 1))) (tC (.int 48271))) (tC (.int 11))) (tC (.int 2147483647))) (gSub (tVar 0) (tC (.int 1)) rSetL))
    (tRet (tOp rMod (tOp rDiv (tOp rMod (tOp rMul (tOp (rIxL K) (tVar 0) (tC (.int 1))) (tOp (rIxL K) (tVar 0) (tC (.int 1)))) (tC (.int 2147483629))) (tC (.int 16))) (tVar 1))))),
    PSs.nox ((pss_cons (ps_if (pt_cmpR op_gt (pe_ix ix_list (pv 0) pe_int (fun _ _ => rfl)) pe_int (nomark _)) (pss_cons (ps_set (i := 2) sc_btake.nd rfl (Or.inl rfl) (pe_op op_mod (pe_ix ix_list (pv 0) pe_int (fun _ _ => rfl)) (pv 1)))
    (pss_cons (ps_asg (pe_op op_fdiv (pe_ix ix_list (pv 0) pe_int (fun _ _ => rfl)) (pv 1)) (pg_sub (pv 0) pe_int set_list))
    (pss_one (ps_ret (pv 2))))) pss_nil)
    (pss_cons (ps_asg (pe_op op_mod (pe_op op_add (pe_op op_mul (pe_ix ix_list (pv 0) pe_int (fun _ _ => rfl)) pe_int) pe_int) pe_int) (pg_sub (pv 0) pe_int set_list))
    (pss_one (ps_ret (pe_op op_mod (pe_op op_fdiv (pe_op op_mod (pe_op op_mul (pe_ix ix_list (pv 0) pe_int (fun _ _ => rfl)) (pe_ix ix_list (pv 0) pe_int (fun _ _ => rfl))) pe_int) pe_int) (pv 1))))))), ?_⟩)
  · first | (obtain ⟨rfl, _⟩ := h; rfl) | (obtain ⟨_, rfl, _⟩ := h; rfl) | (obtain ⟨_, _, rfl, _⟩ := h; rfl) | (obtain ⟨_, _, _, rfl, _⟩ := h; rfl) | (obtain ⟨_, _, _, _, rfl, _⟩ := h; rfl) | (obtain ⟨_, _, _, _, _, rfl, _⟩ := h; rfl) | (obtain ⟨_, _, _, _, _, _, rfl, _⟩ := h; rfl) | (obtain ⟨_, _, _, _, _, _, _, rfl, _⟩ := h; rfl) | (obtain ⟨_, _, _, _, _, _, _, _, rfl, _⟩ := h; rfl) | (obtain ⟨_, _, _, _, _, _, _, _, _, rfl, _⟩ := h; rfl) | (obtain ⟨_, _, _, _, _, _, _, _, _, _, rfl, _⟩ := h; rfl) | (obtain ⟨_, _, _, _, _, _, _, _, _, _, _, rfl, _⟩ := h; rfl)
  · exact pure_btake h
abbrev s_bweb : Stmt := topS 24
abbrev n_bweb : List Str := ["_law_pool_here", "_law_most", "_law_more", "_law_many", "_law_names", "_law_order", "_law_k", "_law_pairs", "_law_ties", "_law_one", "_law_other"]
theorem sc_bweb : FnScope n_bweb ["_law_pool_here", "_law_most", "_law_more"] (defScope s_bweb) := ⟨rfl, rfl, rfl, by decide +kernel, rfl, by decide +kernel, by decide +kernel⟩
theorem ok_bweb {f : Addr} {fd : FuncData} (F : Fun K "_law_web" "_law_web" s_bweb f fd) (B : Blt mg) (c_btake : Cal P w K mg base 1 "_law_take" ["_law_pool_here", "_law_many"] (sp_btake K)) : FnG P w K mg base CX0 2 f fd ["_law_pool_here", "_law_most", "_law_more"] (sp_bweb K) := by
  refine okG F sc_bweb (fun vs H Q E h => ?_) (fun cdv A outer s H vs Q E hr gd h => ⟨(tSeq (tAsg (tOp rAdd (tC (.int 1)) (tCall (sp_btake K) [] E0 (tCons (tVar 0) (tCons (tVar 1) tNil)))) (gName 3))
    (tSeq (tAsg (tLstRgG (tRg1 (tVar 3))) (gName 4))
    (tSeq (tAsg (tLc (iRng1 (tCons (tVar 3) tNil)) (gName 6) tYes (tBM K "list" rPopAt (tVar 4) (tCons (tCall (sp_btake K) [] E0 (tCons (tVar 0) (tCons (tCB (rLenSq K) (tCons (tVar 4) tNil)) tNil))) tNil)) [6]) (gName 5))
    (tSeq (tAsg (tLc (iRng2 (tCons (tC (.int 1)) (tCons (tVar 3) tNil))) (gName 6) tYes (tTupG (tCons (tVar 6) (tCons (tCall (sp_btake K) [] E0 (tCons (tVar 0) (tCons (tVar 6) tNil))) tNil))) [6]) (gName 7))
    (tSeq (tFor (iRng1 (tCons (tCall (sp_btake K) [] E0 (tCons (tVar 0) (tCons (tOp rAdd (tVar 2) (tC (.int 1))) tNil))) tNil)) (gName 6) (tDrop (tBM K "list" rAppend (tVar 7) (tCons (tTupG (tCons (tCall (sp_btake K) [] E0 (tCons (tVar 0) (tCons (tVar 3) tNil))) (tCons (tCall (sp_btake K) [] E0 (tCons (tVar 0) (tCons (tVar 3) tNil))) tNil))) tNil))))
    (tSeq (tAsg tDNewTG (gName 8))
    (tSeq (tFor (iList K (tVar 7)) (gTup K 2 (gCons (gName 9) (gCons (gName 10) gNil))) (tIfS (tTest (tOp rNe (tVar 9) (tVar 10))) (sDPut (tVar 8) (tTupG (tCons (tCB rMin2 (tCons (tOp (rIxL K) (tVar 5) (tVar 9)) (tCons (tOp (rIxL K) (tVar 5) (tVar 10)) tNil))) (tCons (tCB rMax2 (tCons (tOp (rIxL K) (tVar 5) (tVar 9)) (tCons (tOp (rIxL K) (tVar 5) (tVar 10)) tNil))) tNil))) (tC (.bl true))) tNext))
    (tRet (tTupG (tCons (tVar 3) (tCons (tCB rSortedDT (tCons (tVar 8) tNil)) tNil))))))))))),
    PSs.nox ((pss_cons (ps_set (i := 3) sc_bweb.nd rfl (Or.inl rfl) (pe_op op_add pe_int (pe_own c_btake (hr.mono (by decide)) gd (by rfl) (pa_cons (pv 0) (pa_cons (pv 1) pa_nil)))))
    (pss_cons (ps_set (i := 4) sc_bweb.nd rfl (Or.inr rfl) (pe_listRgG (by rfl) (by rfl) B.b_list (prg_1 (by rfl) B.b_range (pv 3))))
    (pss_cons (ps_setLc (i := 5) (own := [("_law_k", 6)]) (g := (gName 6)) (tt := tYes) (by rfl) sc_bweb.nd rfl rfl (sw_true rfl rfl rfl (by decide +kernel)) (pi_range1 (by rfl) B.b_range (pa_cons (pv 3) pa_nil)) (blkOk_by (own := [("_law_k", 6)]) (N := n_bweb) (sc := defScope s_bweb) (by decide +kernel)) (fun _ _ _ _ _ => (pg_name (i := 6) sc_bweb.nd rfl (Or.inl rfl))) (fun _ _ _ _ _ => pts_nil) (fun _ _ _ _ _ => (pe_bm PySem.F.plainAttrs_list PySem.F.slot_list_pop PySem.F.type_list_pop mt_popAt (pv 4) (pa_cons (pe_own c_btake (hr.mono (by decide)) gd (by rfl) (pa_cons (pv 0) (pa_cons (pe_callB call_len_seq (by rfl) B.b_len PySem.boot_len (pa_cons (pv 4) pa_nil)) pa_nil))) pa_nil))))
    (pss_cons (ps_setLc (i := 7) (own := [("_law_k", 6)]) (g := (gName 6)) (tt := tYes) (by rfl) sc_bweb.nd rfl rfl (sw_true rfl rfl rfl (by decide +kernel)) (pi_range2 (by rfl) B.b_range (pa_cons pe_int (pa_cons (pv 3) pa_nil))) (blkOk_by (own := [("_law_k", 6)]) (N := n_bweb) (sc := defScope s_bweb) (by decide +kernel)) (fun _ _ _ _ _ => (pg_name (i := 6) sc_bweb.nd rfl (Or.inl rfl))) (fun _ _ _ _ _ => pts_nil) (fun _ _ _ _ _ => (pe_tupG (pa_cons (pv 6) (pa_cons (pe_own c_btake (hr.mono (by decide)) gd (by rfl) (pa_cons (pv 0) (pa_cons (pv 6) pa_nil))) pa_nil)))))
    (pss_cons (ps_for PassesOwn.never rfl (pi_range1 (by rfl) B.b_range (pa_cons (pe_own c_btake (hr.mono (by decide)) gd (by rfl) (pa_cons (pv 0) (pa_cons (pe_op op_add (pv 2) pe_int) pa_nil))) pa_nil)) (pg_name (i := 6) sc_bweb.nd rfl (Or.inl rfl)) (pss_one (ps_expr (pe_bm PySem.F.plainAttrs_list PySem.F.slot_list_append PySem.F.type_list_append mt_append (pv 7) (pa_cons (pe_tupG (pa_cons (pe_own c_btake (hr.mono (by decide)) gd (by rfl) (pa_cons (pv 0) (pa_cons (pv 3) pa_nil))) (pa_cons (pe_own c_btake (hr.mono (by decide)) gd (by rfl) (pa_cons (pv 0) (pa_cons (pv 3) pa_nil))) pa_nil))) pa_nil)))))
    (pss_cons (ps_set (i := 8) sc_bweb.nd rfl (Or.inl rfl) pe_dnewTG)
    (pss_cons (ps_for PassesOwn.never rfl (pi_list (pv 7)) (pg_tup (by rfl) (pgs_cons (pg_name (i := 9) sc_bweb.nd rfl (Or.inl rfl)) (pgs_cons (pg_name (i := 10) sc_bweb.nd rfl (Or.inl rfl)) pgs_nil))) (pss_one (ps_if (pt_cmpR op_ne (pv 9) (pv 10) (nomark _)) (pss_one (ps_dput (hu_of hr) (pv 8) (pe_tupG (pa_cons (pe_callB (call_min2 rfl) (by rfl) B.b_min (by decide +kernel) (pa_cons (pe_ix ix_list (pv 5) (pv 9) (fun _ _ => rfl)) (pa_cons (pe_ix ix_list (pv 5) (pv 10) (fun _ _ => rfl)) pa_nil))) (pa_cons (pe_callB (call_max2 rfl) (by rfl) B.b_max (by decide +kernel) (pa_cons (pe_ix ix_list (pv 5) (pv 9) (fun _ _ => rfl)) (pa_cons (pe_ix ix_list (pv 5) (pv 10) (fun _ _ => rfl)) pa_nil))) pa_nil))) pe_bl rfl)) pss_nil)))
    (pss_one (ps_ret (pe_tupG (pa_cons (pv 3) (pa_cons (pe_callB (cr_sortedDT rfl) (by rfl) B.b_sorted (by decide +kernel) (pa_cons (pv 8) pa_nil)) pa_nil))))))))))))), ?_⟩)
  · first | (obtain ⟨rfl, _⟩ := h; rfl) | (obtain ⟨_, rfl, _⟩ := h; rfl) | (obtain ⟨_, _, rfl, _⟩ := h; rfl) | (obtain ⟨_, _, _, rfl, _⟩ := h; rfl) | (obtain ⟨_, _, _, _, rfl, _⟩ := h; rfl) | (obtain ⟨_, _, _, _, _, rfl, _⟩ := h; rfl) | (obtain ⟨_, _, _, _, _, _, rfl, _⟩ := h; rfl) | (obtain ⟨_, _, _, _, _, _, _, rfl, _⟩ := h; rfl) | (obtain ⟨_, _, _, _, _, _, _, _, rfl, _⟩ := h; rfl) | (obtain ⟨_, _, _, _, _, _, _, _, _, rfl, _⟩ := h; rfl) | (obtain ⟨_, _, _, _, _, _, _, _, _, _, rfl, _⟩ := h; rfl) | (obtain ⟨_, _, _, _, _, _, _, _, _, _, _, rfl, _⟩ := h; rfl)
  · exact pure_bweb h
abbrev s_bloose : Stmt := topS 25
abbrev n_bloose : List Str := ["_law_pool_here", "_law_most", "_law_more", "_law_many", "_law_ties", "_law_tie"]
theorem sc_bloose : FnScope n_bloose ["_law_pool_here", "_law_most", "_law_more"] (defScope s_bloose) := ⟨rfl, rfl, rfl, by decide +kernel, rfl, by decide +kernel, by decide +kernel⟩
theorem ok_bloose {f : Addr} {fd : FuncData} (F : Fun K "_law_loose" "_law_loose" s_bloose f fd) (B : Blt mg) (c_bweb : Cal P w K mg base 2 "_law_web" ["_law_pool_here", "_law_most", "_law_more"] (sp_bweb K)) (c_btake : Cal P w K mg base 1 "_law_take" ["_law_pool_here", "_law_many"] (sp_btake K)) : FnG P w K mg base CX0 3 f fd ["_law_pool_here", "_law_most", "_law_more"] (sp_bloose K) := by
  refine okG F sc_bloose (fun vs H Q E h => ?_) (fun cdv A outer s H vs Q E hr gd h => ⟨(tSeq (tAsg (tCall (sp_bweb K) [] E0 (tCons (tVar 0) (tCons (tVar 1) (tCons (tVar 2) tNil)))) (gTup K 2 (gCons (gName 3) (gCons (gName 4) gNil))))
    (tSeq (tIfS (tTest (tOp rEq (tCall (sp_btake K) [] E0 (tCons (tVar 0) (tCons (tC (.int 4)) tNil))) (tC (.int 0)))) (tAsg (tLc (iList K (tVar 4)) (gName 5) (tTest (tOp rGt (tCall (sp_btake K) [] E0 (tCons (tVar 0) (tCons (tC (.int 3)) tNil))) (tC (.int 0)))) (tVar 5) [5]) (gName 4)) tNext)
    (tRet (tTupG (tCons (tVar 3) (tCons (tVar 4) tNil)))))),
    PSs.nox ((pss_cons (ps_asg (pe_own c_bweb (hr.mono (by decide)) gd (by rfl) (pa_cons (pv 0) (pa_cons (pv 1) (pa_cons (pv 2) pa_nil)))) (pg_tup (by rfl) (pgs_cons (pg_name (i := 3) sc_bloose.nd rfl (Or.inl rfl)) (pgs_cons (pg_name (i := 4) sc_bloose.nd rfl (Or.inl rfl)) pgs_nil))))
    (pss_cons (ps_if (pt_cmpR op_eq (pe_own c_btake (hr.mono (by decide)) gd (by rfl) (pa_cons (pv 0) (pa_cons pe_int pa_nil))) pe_int (nomark _)) (pss_one (ps_setLc (i := 4) (own := [("_law_tie", 5)]) (g := (gName 5)) (tt := (tTest (tOp rGt (tCall (sp_btake K) [] E0 (tCons (tVar 0) (tCons (tC (.int 3)) tNil))) (tC (.int 0))))) (by rfl) sc_bloose.nd rfl rfl (sw_true rfl rfl rfl (by decide +kernel)) (pi_list (pv 4)) (blkOk_by (own := [("_law_tie", 5)]) (N := n_bloose) (sc := defScope s_bloose) (by decide +kernel)) (fun _ _ _ _ _ => (pg_name (i := 5) sc_bloose.nd rfl (Or.inl rfl))) (fun _ _ _ _ _ => (pts_one (pt_cmpR op_gt (pe_own c_btake (hr.mono (by decide)) gd (by rfl) (pa_cons (pv 0) (pa_cons pe_int pa_nil))) pe_int (nomark _)))) (fun _ _ _ _ _ => (pv 5)))) pss_nil)
    (pss_one (ps_ret (pe_tupG (pa_cons (pv 3) (pa_cons (pv 4) pa_nil)))))))), ?_⟩)
  · first | (obtain ⟨rfl, _⟩ := h; rfl) | (obtain ⟨_, rfl, _⟩ := h; rfl) | (obtain ⟨_, _, rfl, _⟩ := h; rfl) | (obtain ⟨_, _, _, rfl, _⟩ := h; rfl) | (obtain ⟨_, _, _, _, rfl, _⟩ := h; rfl) | (obtain ⟨_, _, _, _, _, rfl, _⟩ := h; rfl) | (obtain ⟨_, _, _, _, _, _, rfl, _⟩ := h; rfl) | (obtain ⟨_, _, _, _, _, _, _, rfl, _⟩ := h; rfl) | (obtain ⟨_, _, _, _, _, _, _, _, rfl, _⟩ := h; rfl) | (obtain ⟨_, _, _, _, _, _, _, _, _, rfl, _⟩ := h; rfl) | (obtain ⟨_, _, _, _, _, _, _, _, _, _, rfl, _⟩ := h; rfl) | (obtain ⟨_, _, _, _, _, _, _, _, _, _, _, rfl, _⟩ := h; rfl)
  · exact pure_bloose h
abbrev s_bshuf : Stmt := topS 26
abbrev n_bshuf : List Str := ["_law_pool_here", "_law_many", "_law_names", "_law_k"]
theorem sc_bshuf : FnScope n_bshuf ["_law_pool_here", "_law_many"] (defScope s_bshuf) := ⟨rfl, rfl, rfl, by decide +kernel, rfl, by decide +kernel, by decide +kernel⟩
theorem ok_bshuf {f : Addr} {fd : FuncData} (F : Fun K "_law_shuffled" "_law_shuffled" s_bshuf f fd) (B : Blt mg) (c_btake : Cal P w K mg base 1 "_law_take" ["_law_pool_here", "_law_many"] (sp_btake K)) : FnG P w K mg base CX0 2 f fd ["_law_pool_here", "_law_many"] (sp_bshuf K) := by
  refine okG F sc_bshuf (fun vs H Q E h => ?_) (fun cdv A outer s H vs Q E hr gd h => ⟨(tSeq (tAsg (tLstRgG (tRg1 (tVar 1))) (gName 2))
    (tRet (tLc (iRng1 (tCons (tVar 1) tNil)) (gName 3) tYes (tBM K "list" rPopAt (tVar 2) (tCons (tCall (sp_btake K) [] E0 (tCons (tVar 0) (tCons (tCB (rLenSq K) (tCons (tVar 2) tNil)) tNil))) tNil)) [3]))),
    PSs.nox ((pss_cons (ps_set (i := 2) sc_bshuf.nd rfl (Or.inr rfl) (pe_listRgG (by rfl) (by rfl) B.b_list (prg_1 (by rfl) B.b_range (pv 1))))
    (pss_one (ps_ret (pe_lc (own := [("_law_k", 3)]) (g := (gName 3)) (tt := tYes) (by rfl) sc_bshuf.nd (pi_range1 (by rfl) B.b_range (pa_cons (pv 1) pa_nil)) (blkOk_by (own := [("_law_k", 3)]) (N := n_bshuf) (sc := defScope s_bshuf) (by decide +kernel)) (fun _ _ _ _ _ => (pg_name (i := 3) sc_bshuf.nd rfl (Or.inl rfl))) (fun _ _ _ _ _ => pts_nil) (fun _ _ _ _ _ => (pe_bm PySem.F.plainAttrs_list PySem.F.slot_list_pop PySem.F.type_list_pop mt_popAt (pv 2) (pa_cons (pe_own c_btake (hr.mono (by decide)) gd (by rfl) (pa_cons (pv 0) (pa_cons (pe_callB call_len_seq (by rfl) B.b_len PySem.boot_len (pa_cons (pv 2) pa_nil)) pa_nil))) pa_nil)))))))), ?_⟩)
  · first | (obtain ⟨rfl, _⟩ := h; rfl) | (obtain ⟨_, rfl, _⟩ := h; rfl) | (obtain ⟨_, _, rfl, _⟩ := h; rfl) | (obtain ⟨_, _, _, rfl, _⟩ := h; rfl) | (obtain ⟨_, _, _, _, rfl, _⟩ := h; rfl) | (obtain ⟨_, _, _, _, _, rfl, _⟩ := h; rfl) | (obtain ⟨_, _, _, _, _, _, rfl, _⟩ := h; rfl) | (obtain ⟨_, _, _, _, _, _, _, rfl, _⟩ := h; rfl) | (obtain ⟨_, _, _, _, _, _, _, _, rfl, _⟩ := h; rfl) | (obtain ⟨_, _, _, _, _, _, _, _, _, rfl, _⟩ := h; rfl) | (obtain ⟨_, _, _, _, _, _, _, _, _, _, rfl, _⟩ := h; rfl) | (obtain ⟨_, _, _, _, _, _, _, _, _, _, _, rfl, _⟩ := h; rfl)
  · exact pure_bshuf h
abbrev s_is_whole : Stmt := topS 7
abbrev n_is_whole : List Str := ["thing"]
theorem sc_is_whole : FnScope n_is_whole ["thing"] (defScope s_is_whole) := ⟨rfl, rfl, rfl, by decide +kernel, rfl, by decide +kernel, by decide +kernel⟩
theorem ok_is_whole {f : Addr} {fd : FuncData} (F : Fun K "is_whole" "is_whole" s_is_whole f fd) (B : Blt mg)  : FnG P w K mg base CX0 1 f fd ["thing"] (sp_is_whole K) := by
  refine okG F sc_is_whole (fun vs H Q E h => ?_) (fun cdv A outer s H vs Q E hr gd h => ⟨(tRet (tAndV (tCB (rIsi K) (tCons (tVar 0) (tCons (tC (.ty "int")) tNil))) (tNotV (tCB (rIsi K) (tCons (tVar 0) (tCons (tC (.ty "bool")) tNil)))))),
    PSs.nox ((pss_one (ps_ret (pe_and (pe_callB call_isi (by rfl) B.b_isinstance (by decide +kernel) (pa_cons (pv 0) (pa_cons (pe_bltn (by rfl) B.b_int (by decide +kernel) rfl) pa_nil))) (pe_one (pe_not (pe_callB call_isi (by rfl) B.b_isinstance (by decide +kernel) (pa_cons (pv 0) (pa_cons (pe_bltn (by rfl) B.b_bool (by decide +kernel) rfl) pa_nil))))))))), ?_⟩)
  · first | (obtain ⟨rfl, _⟩ := h; rfl) | (obtain ⟨_, rfl, _⟩ := h; rfl) | (obtain ⟨_, _, rfl, _⟩ := h; rfl) | (obtain ⟨_, _, _, rfl, _⟩ := h; rfl) | (obtain ⟨_, _, _, _, rfl, _⟩ := h; rfl) | (obtain ⟨_, _, _, _, _, rfl, _⟩ := h; rfl) | (obtain ⟨_, _, _, _, _, _, rfl, _⟩ := h; rfl) | (obtain ⟨_, _, _, _, _, _, _, rfl, _⟩ := h; rfl) | (obtain ⟨_, _, _, _, _, _, _, _, rfl, _⟩ := h; rfl) | (obtain ⟨_, _, _, _, _, _, _, _, _, rfl, _⟩ := h; rfl) | (obtain ⟨_, _, _, _, _, _, _, _, _, _, rfl, _⟩ := h; rfl) | (obtain ⟨_, _, _, _, _, _, _, _, _, _, _, rfl, _⟩ := h; rfl)
  · exact pure_is_whole h
abbrev s_is_within : Stmt := topS 8
abbrev n_is_within : List Str := ["thing", "least", "most"]
theorem sc_is_within : FnScope n_is_within ["thing", "least", "most"] (defScope s_is_within) := ⟨rfl, rfl, rfl, by decide +kernel, rfl, by decide +kernel, by decide +kernel⟩
theorem ok_is_within {f : Addr} {fd : FuncData} (F : Fun K "is_within" "is_within" s_is_within f fd) (B : Blt mg) (c_is_whole : Cal P w K mg base 1 "is_whole" ["thing"] (sp_is_whole K)) : FnG P w K mg base CX0 2 f fd ["thing", "least", "most"] (sp_is_within K) := by
  refine okG F sc_is_within (fun vs H Q E h => ?_) (fun cdv A outer s H vs Q E hr gd h => ⟨(tRet (tAndV (tCall (sp_is_whole K) [] E0 (tCons (tVar 0) tNil)) (tChain rLe rLe (tVar 1) (tVar 0) (tVar 2)))),
    PSs.nox ((pss_one (ps_ret (pe_and (pe_own c_is_whole (hr.mono (by decide)) gd (by rfl) (pa_cons (pv 0) pa_nil)) (pe_one (pe_chain op_le op_le (pv 1) (pv 0) (pv 2))))))), ?_⟩)
  · first | (obtain ⟨rfl, _⟩ := h; rfl) | (obtain ⟨_, rfl, _⟩ := h; rfl) | (obtain ⟨_, _, rfl, _⟩ := h; rfl) | (obtain ⟨_, _, _, rfl, _⟩ := h; rfl) | (obtain ⟨_, _, _, _, rfl, _⟩ := h; rfl) | (obtain ⟨_, _, _, _, _, rfl, _⟩ := h; rfl) | (obtain ⟨_, _, _, _, _, _, rfl, _⟩ := h; rfl) | (obtain ⟨_, _, _, _, _, _, _, rfl, _⟩ := h; rfl) | (obtain ⟨_, _, _, _, _, _, _, _, rfl, _⟩ := h; rfl) | (obtain ⟨_, _, _, _, _, _, _, _, _, rfl, _⟩ := h; rfl) | (obtain ⟨_, _, _, _, _, _, _, _, _, _, rfl, _⟩ := h; rfl) | (obtain ⟨_, _, _, _, _, _, _, _, _, _, _, rfl, _⟩ := h; rfl)
  · exact pure_is_within h
abbrev s_is_tie : Stmt := topS 9
abbrev n_is_tie : List Str := ["many", "thing"]
theorem sc_is_tie : FnScope n_is_tie ["many", "thing"] (defScope s_is_tie) := ⟨rfl, rfl, rfl, by decide +kernel, rfl, by decide +kernel, by decide +kernel⟩
theorem ok_is_tie {f : Addr} {fd : FuncData} (F : Fun K "is_tie" "is_tie" s_is_tie f fd) (B : Blt mg) (c_is_within : Cal P w K mg base 2 "is_within" ["thing", "least", "most"] (sp_is_within K)) : FnG P w K mg base CX0 3 f fd ["many", "thing"] (sp_is_tie K) := by
  refine okG F sc_is_tie (fun vs H Q E h => ?_) (fun cdv A outer s H vs Q E hr gd h => ⟨(tSeq (tIfS (tOr (tNot (tB (tCB (rIsi K) (tCons (tVar 1) (tCons (tC (.ty "tuple")) tNil))))) (tTest (tOp rNe (tCB (rLenSq K) (tCons (tVar 1) tNil)) (tC (.int 2))))) (tRet (tC (.bl false))) tNext)
    (tSeq (tIfS (tOr (tNot (tB (tCall (sp_is_within K) [] E0 (tCons (tOp (rIxT K) (tVar 1) (tC (.int 0))) (tCons (tC (.int 0)) (tCons (tOp rSub (tVar 0) (tC (.int 1))) tNil)))))) (tNot (tB (tCall (sp_is_within K) [] E0 (tCons (tOp (rIxT K) (tVar 1) (tC (.int 1))) (tCons (tC (.int 0)) (tCons (tOp rSub (tVar 0) (tC (.int 1))) tNil))))))) (tRet (tC (.bl false))) tNext)
    (tRet (tOp rLt (tOp (rIxT K) (tVar 1) (tC (.int 0))) (tOp (rIxT K) (tVar 1) (tC (.int 1))))))),
    PSs.nox ((pss_cons (ps_if (PW.pt (pw_or (pt_not (pt_val (pe_callB call_isi (by rfl) B.b_isinstance (by decide +kernel) (pa_cons (pv 1) (pa_cons (pe_bltn (by rfl) B.b_tuple (by decide +kernel) rfl) pa_nil))))) (pw_or1 (pt_cmpR op_ne (pe_callB call_len_seq (by rfl) B.b_len PySem.boot_len (pa_cons (pv 1) pa_nil)) pe_int (nomark _))))) (pss_one (ps_ret pe_bl)) pss_nil)
    (pss_cons (ps_if (PW.pt (pw_or (pt_not (pt_val (pe_own c_is_within (hr.mono (by decide)) gd (by rfl) (pa_cons (pe_ix ix_tup (pv 1) pe_int (fun _ _ => rfl)) (pa_cons pe_int (pa_cons (pe_op op_sub (pv 0) pe_int) pa_nil)))))) (pw_or1 (pt_not (pt_val (pe_own c_is_within (hr.mono (by decide)) gd (by rfl) (pa_cons (pe_ix ix_tup (pv 1) pe_int (fun _ _ => rfl)) (pa_cons pe_int (pa_cons (pe_op op_sub (pv 0) pe_int) pa_nil))))))))) (pss_one (ps_ret pe_bl)) pss_nil)
    (pss_one (ps_ret (pe_cmpR op_lt (pe_ix ix_tup (pv 1) pe_int (fun _ _ => rfl)) (pe_ix ix_tup (pv 1) pe_int (fun _ _ => rfl)) (nomark _))))))), ?_⟩)
  · first | (obtain ⟨rfl, _⟩ := h; rfl) | (obtain ⟨_, rfl, _⟩ := h; rfl) | (obtain ⟨_, _, rfl, _⟩ := h; rfl) | (obtain ⟨_, _, _, rfl, _⟩ := h; rfl) | (obtain ⟨_, _, _, _, rfl, _⟩ := h; rfl) | (obtain ⟨_, _, _, _, _, rfl, _⟩ := h; rfl) | (obtain ⟨_, _, _, _, _, _, rfl, _⟩ := h; rfl) | (obtain ⟨_, _, _, _, _, _, _, rfl, _⟩ := h; rfl) | (obtain ⟨_, _, _, _, _, _, _, _, rfl, _⟩ := h; rfl) | (obtain ⟨_, _, _, _, _, _, _, _, _, rfl, _⟩ := h; rfl) | (obtain ⟨_, _, _, _, _, _, _, _, _, _, rfl, _⟩ := h; rfl) | (obtain ⟨_, _, _, _, _, _, _, _, _, _, _, rfl, _⟩ := h; rfl)
  · exact pure_is_tie h
abbrev s_look_at_web : Stmt := topS 10
abbrev n_look_at_web : List Str := ["thing", "many", "ties", "ahead", "number", "tie"]
theorem sc_look_at_web : FnScope n_look_at_web ["thing"] (defScope s_look_at_web) := ⟨rfl, rfl, rfl, by decide +kernel, rfl, by decide +kernel, by decide +kernel⟩
theorem ok_look_at_web {f : Addr} {fd : FuncData} (F : Fun K "look_at_web" "look_at_web" s_look_at_web f fd) (B : Blt mg) (c_is_within : Cal P w K mg base 2 "is_within" ["thing", "least", "most"] (sp_is_within K)) (c_is_tie : Cal P w K mg base 3 "is_tie" ["many", "thing"] (sp_is_tie K)) : FnG P w K mg base CX0 4 f fd ["thing"] (sp_look_at_web K) := by
  refine okG F sc_look_at_web (fun vs H Q E h => ?_) (fun cdv A outer s H vs Q E hr gd h => ⟨(tSeq (tIfS (tOr (tNot (tB (tCB (rIsi K) (tCons (tVar 0) (tCons (tC (.ty "tuple")) tNil))))) (tTest (tOp rNe (tCB (rLenSq K) (tCons (tVar 0) tNil)) (tC (.int 2))))) tNever tNext)
    (tSeq (tAsg (tVar 0) (gTup K 2 (gCons (gName 1) (gCons (gName 2) gNil))))
    (tSeq (tIfS (tNot (tB (tCall (sp_is_within K) [] E0 (tCons (tVar 1) (tCons (tC (.int 1)) (tCons (tC (.int 40)) tNil)))))) tNever tNext)
    (tSeq (tIfS (tOr (tNot (tB (tCB (rIsi K) (tCons (tVar 2) (tCons (tC (.ty "list")) tNil))))) (tTest (tOp rGt (tCB (rLenSq K) (tCons (tVar 2) tNil)) (tC (.int 120))))) tNever tNext)
    (tSeq (tAsg (tTupG (tCons (tUn rNeg (tC (.int 1))) (tCons (tUn rNeg (tC (.int 1))) tNil))) (gName 3))
    (tFor (iEnum K (tCons (tVar 2) tNil)) (gTup K 2 (gCons (gName 4) (gCons (gName 5) gNil))) (tSeq (tIfS (tOr (tNot (tB (tCall (sp_is_tie K) [] E0 (tCons (tVar 1) (tCons (tVar 5) tNil))))) (tTest (tOp (rLeT K) (tVar 5) (tVar 3)))) tNever tNext)
    (tAsg (tVar 5) (gName 3))))))))),
    PSs.nox ((pss_cons (ps_if (PW.pt (pw_or (pt_not (pt_val (pe_callB call_isi (by rfl) B.b_isinstance (by decide +kernel) (pa_cons (pv 0) (pa_cons (pe_bltn (by rfl) B.b_tuple (by decide +kernel) rfl) pa_nil))))) (pw_or1 (pt_cmpR op_ne (pe_callB call_len_seq (by rfl) B.b_len PySem.boot_len (pa_cons (pv 0) pa_nil)) pe_int (nomark _))))) (pss_one ps_never) pss_nil)
    (pss_cons (ps_asg (pv 0) (pg_tup (by rfl) (pgs_cons (pg_name (i := 1) sc_look_at_web.nd rfl (Or.inl rfl)) (pgs_cons (pg_name (i := 2) sc_look_at_web.nd rfl (Or.inl rfl)) pgs_nil))))
    (pss_cons (ps_if (pt_not (pt_val (pe_own c_is_within (hr.mono (by decide)) gd (by rfl) (pa_cons (pv 1) (pa_cons pe_int (pa_cons (pe_glob (by rfl) B.g_MOST_PLACES.choose_spec ⟨_, rfl⟩) pa_nil)))))) (pss_one ps_never) pss_nil)
    (pss_cons (ps_if (PW.pt (pw_or (pt_not (pt_val (pe_callB call_isi (by rfl) B.b_isinstance (by decide +kernel) (pa_cons (pv 2) (pa_cons (pe_bltn (by rfl) B.b_list (by decide +kernel) rfl) pa_nil))))) (pw_or1 (pt_cmpR op_gt (pe_callB call_len_seq (by rfl) B.b_len PySem.boot_len (pa_cons (pv 2) pa_nil)) (pe_glob (by rfl) B.g_MOST_TIES.choose_spec ⟨_, rfl⟩) (nomark _))))) (pss_one ps_never) pss_nil)
    (pss_cons (ps_set (i := 3) sc_look_at_web.nd rfl (Or.inl rfl) (pe_tupG (pa_cons (pe_un un_neg pe_int) (pa_cons (pe_un un_neg pe_int) pa_nil))))
    (pss_one (ps_for PassesOwn.never rfl (pi_enum (by rfl) B.b_enumerate (pa_cons (pv 2) pa_nil)) (pg_tup (by rfl) (pgs_cons (pg_name (i := 4) sc_look_at_web.nd rfl (Or.inl rfl)) (pgs_cons (pg_name (i := 5) sc_look_at_web.nd rfl (Or.inl rfl)) pgs_nil))) (pss_cons (ps_if (PW.pt (pw_or (pt_not (pt_val (pe_own c_is_tie (hr.mono (by decide)) gd (by rfl) (pa_cons (pv 1) (pa_cons (pv 5) pa_nil))))) (pw_or1 (pt_cmpR (op_leT hr.units0) (pv 5) (pv 3) (nomark _))))) (pss_one ps_never) pss_nil)
    (pss_one (ps_set (i := 3) sc_look_at_web.nd rfl (Or.inl rfl) (pv 5)))))))))))), ?_⟩)
  · first | (obtain ⟨rfl, _⟩ := h; rfl) | (obtain ⟨_, rfl, _⟩ := h; rfl) | (obtain ⟨_, _, rfl, _⟩ := h; rfl) | (obtain ⟨_, _, _, rfl, _⟩ := h; rfl) | (obtain ⟨_, _, _, _, rfl, _⟩ := h; rfl) | (obtain ⟨_, _, _, _, _, rfl, _⟩ := h; rfl) | (obtain ⟨_, _, _, _, _, _, rfl, _⟩ := h; rfl) | (obtain ⟨_, _, _, _, _, _, _, rfl, _⟩ := h; rfl) | (obtain ⟨_, _, _, _, _, _, _, _, rfl, _⟩ := h; rfl) | (obtain ⟨_, _, _, _, _, _, _, _, _, rfl, _⟩ := h; rfl) | (obtain ⟨_, _, _, _, _, _, _, _, _, _, rfl, _⟩ := h; rfl) | (obtain ⟨_, _, _, _, _, _, _, _, _, _, _, rfl, _⟩ := h; rfl)
  · exact pure_look_at_web h
abbrev s_is_place : Stmt := topS 11
abbrev n_is_place : List Str := ["web", "thing"]
theorem sc_is_place : FnScope n_is_place ["web", "thing"] (defScope s_is_place) := ⟨rfl, rfl, rfl, by decide +kernel, rfl, by decide +kernel, by decide +kernel⟩
theorem ok_is_place {f : Addr} {fd : FuncData} (F : Fun K "is_place" "is_place" s_is_place f fd) (B : Blt mg) (c_is_within : Cal P w K mg base 2 "is_within" ["thing", "least", "most"] (sp_is_within K)) : FnG P w K mg base CX0 3 f fd ["web", "thing"] (sp_is_place K) := by
  refine okG F sc_is_place (fun vs H Q E h => ?_) (fun cdv A outer s H vs Q E hr gd h => ⟨(tRet (tCall (sp_is_within K) [] E0 (tCons (tVar 1) (tCons (tC (.int 0)) (tCons (tOp rSub (tOp (rIxT K) (tVar 0) (tC (.int 0))) (tC (.int 1))) tNil))))),
    PSs.nox ((pss_one (ps_ret (pe_own c_is_within (hr.mono (by decide)) gd (by rfl) (pa_cons (pv 1) (pa_cons pe_int (pa_cons (pe_op op_sub (pe_ix ix_tup (pv 0) pe_int (fun _ _ => rfl)) pe_int) pa_nil))))))), ?_⟩)
  · first | (obtain ⟨rfl, _⟩ := h; rfl) | (obtain ⟨_, rfl, _⟩ := h; rfl) | (obtain ⟨_, _, rfl, _⟩ := h; rfl) | (obtain ⟨_, _, _, rfl, _⟩ := h; rfl) | (obtain ⟨_, _, _, _, rfl, _⟩ := h; rfl) | (obtain ⟨_, _, _, _, _, rfl, _⟩ := h; rfl) | (obtain ⟨_, _, _, _, _, _, rfl, _⟩ := h; rfl) | (obtain ⟨_, _, _, _, _, _, _, rfl, _⟩ := h; rfl) | (obtain ⟨_, _, _, _, _, _, _, _, rfl, _⟩ := h; rfl) | (obtain ⟨_, _, _, _, _, _, _, _, _, rfl, _⟩ := h; rfl) | (obtain ⟨_, _, _, _, _, _, _, _, _, _, rfl, _⟩ := h; rfl) | (obtain ⟨_, _, _, _, _, _, _, _, _, _, _, rfl, _⟩ := h; rfl)
  · exact pure_is_place h
abbrev s_is_all_places : Stmt := topS 15
abbrev n_is_all_places : List Str := ["web", "thing", "place"]
theorem sc_is_all_places : FnScope n_is_all_places ["web", "thing"] (defScope s_is_all_places) := ⟨rfl, rfl, rfl, by decide +kernel, rfl, by decide +kernel, by decide +kernel⟩
theorem ok_is_all_places {f : Addr} {fd : FuncData} (F : Fun K "is_all_places" "is_all_places" s_is_all_places f fd) (B : Blt mg) (c_is_place : Cal P w K mg base 3 "is_place" ["web", "thing"] (sp_is_place K)) : FnG P w K mg base CX0 4 f fd ["web", "thing"] (sp_is_all_places K) := by
  refine okG F sc_is_all_places (fun vs H Q E h => ?_) (fun cdv A outer s H vs Q E hr gd h => ⟨(tSeq (tIfS (tOr (tNot (tB (tCB (rIsi K) (tCons (tVar 1) (tCons (tC (.ty "list")) tNil))))) (tTest (tOp rNe (tCB (rLenSq K) (tCons (tVar 1) tNil)) (tOp (rIxT K) (tVar 0) (tC (.int 0)))))) (tRet (tC (.bl false))) tNext)
    (tRet (tAndV (tCB (rAll K) (tCons (tLc (iList K (tVar 1)) (gName 2) tYes (tCall (sp_is_place K) [] E0 (tCons (tVar 0) (tCons (tVar 2) tNil))) [2]) tNil)) (tOp rEq (RZ.tLenSetI K (tVar 1)) (tCB (rLenSq K) (tCons (tVar 1) tNil)))))),
    PSs.nox ((pss_cons (ps_if (PW.pt (pw_or (pt_not (pt_val (pe_callB call_isi (by rfl) B.b_isinstance (by decide +kernel) (pa_cons (pv 1) (pa_cons (pe_bltn (by rfl) B.b_list (by decide +kernel) rfl) pa_nil))))) (pw_or1 (pt_cmpR op_ne (pe_callB call_len_seq (by rfl) B.b_len PySem.boot_len (pa_cons (pv 1) pa_nil)) (pe_ix ix_tup (pv 0) pe_int (fun _ _ => rfl)) (nomark _))))) (pss_one (ps_ret pe_bl)) pss_nil)
    (pss_one (ps_ret (pe_and (pe_callB (cr_all rfl) (by rfl) B.b_all (by decide +kernel) (pa_cons (pe_lc (own := [("place", 2)]) (g := (gName 2)) (tt := tYes) (by rfl) sc_is_all_places.nd (pi_list (pv 1)) (blkOk_by (own := [("place", 2)]) (N := n_is_all_places) (sc := defScope s_is_all_places) (by decide +kernel)) (fun _ _ _ _ _ => (pg_name (i := 2) sc_is_all_places.nd rfl (Or.inl rfl))) (fun _ _ _ _ _ => pts_nil) (fun _ _ _ _ _ => (pe_own c_is_place (hr.mono (by decide)) gd (by rfl) (pa_cons (pv 0) (pa_cons (pv 2) pa_nil))))) pa_nil)) (pe_one (pe_cmpR op_eq (RZ.pe_lenSetI (by rfl) B.b_len (by rfl) B.b_set (pv 1)) (pe_callB call_len_seq (by rfl) B.b_len PySem.boot_len (pa_cons (pv 1) pa_nil)) (nomark _)))))))), ?_⟩)
  · first | (obtain ⟨rfl, _⟩ := h; rfl) | (obtain ⟨_, rfl, _⟩ := h; rfl) | (obtain ⟨_, _, rfl, _⟩ := h; rfl) | (obtain ⟨_, _, _, rfl, _⟩ := h; rfl) | (obtain ⟨_, _, _, _, rfl, _⟩ := h; rfl) | (obtain ⟨_, _, _, _, _, rfl, _⟩ := h; rfl) | (obtain ⟨_, _, _, _, _, _, rfl, _⟩ := h; rfl) | (obtain ⟨_, _, _, _, _, _, _, rfl, _⟩ := h; rfl) | (obtain ⟨_, _, _, _, _, _, _, _, rfl, _⟩ := h; rfl) | (obtain ⟨_, _, _, _, _, _, _, _, _, rfl, _⟩ := h; rfl) | (obtain ⟨_, _, _, _, _, _, _, _, _, _, rfl, _⟩ := h; rfl) | (obtain ⟨_, _, _, _, _, _, _, _, _, _, _, rfl, _⟩ := h; rfl)
  · exact pure_is_all_places h
abbrev s_tie_of : Stmt := topS 12
abbrev n_tie_of : List Str := ["one", "other"]
theorem sc_tie_of : FnScope n_tie_of ["one", "other"] (defScope s_tie_of) := ⟨rfl, rfl, rfl, by decide +kernel, rfl, by decide +kernel, by decide +kernel⟩
theorem ok_tie_of {f : Addr} {fd : FuncData} (F : Fun K "tie_of" "tie_of" s_tie_of f fd) (B : Blt mg)  : FnG P w K mg base CX0 1 f fd ["one", "other"] (sp_tie_of K) := by
  refine okG F sc_tie_of (fun vs H Q E h => ?_) (fun cdv A outer s H vs Q E hr gd h => ⟨(tRet (tTupG (tCons (tCB rMin2 (tCons (tVar 0) (tCons (tVar 1) tNil))) (tCons (tCB rMax2 (tCons (tVar 0) (tCons (tVar 1) tNil))) tNil)))),
    PSs.nox ((pss_one (ps_ret (pe_tupG (pa_cons (pe_callB (call_min2 rfl) (by rfl) B.b_min (by decide +kernel) (pa_cons (pv 0) (pa_cons (pv 1) pa_nil))) (pa_cons (pe_callB (call_max2 rfl) (by rfl) B.b_max (by decide +kernel) (pa_cons (pv 0) (pa_cons (pv 1) pa_nil))) pa_nil)))))), ?_⟩)
  · first | (obtain ⟨rfl, _⟩ := h; rfl) | (obtain ⟨_, rfl, _⟩ := h; rfl) | (obtain ⟨_, _, rfl, _⟩ := h; rfl) | (obtain ⟨_, _, _, rfl, _⟩ := h; rfl) | (obtain ⟨_, _, _, _, rfl, _⟩ := h; rfl) | (obtain ⟨_, _, _, _, _, rfl, _⟩ := h; rfl) | (obtain ⟨_, _, _, _, _, _, rfl, _⟩ := h; rfl) | (obtain ⟨_, _, _, _, _, _, _, rfl, _⟩ := h; rfl) | (obtain ⟨_, _, _, _, _, _, _, _, rfl, _⟩ := h; rfl) | (obtain ⟨_, _, _, _, _, _, _, _, _, rfl, _⟩ := h; rfl) | (obtain ⟨_, _, _, _, _, _, _, _, _, _, rfl, _⟩ := h; rfl) | (obtain ⟨_, _, _, _, _, _, _, _, _, _, _, rfl, _⟩ := h; rfl)
  · exact pure_tie_of h
abbrev s_renumbered : Stmt := topS 18
abbrev n_renumbered : List Str := ["web", "numbers", "one", "other"]
theorem sc_renumbered : FnScope n_renumbered ["web", "numbers"] (defScope s_renumbered) := ⟨rfl, rfl, rfl, by decide +kernel, rfl, by decide +kernel, by decide +kernel⟩
theorem ok_renumbered {f : Addr} {fd : FuncData} (F : Fun K "renumbered" "renumbered" s_renumbered f fd) (B : Blt mg) (c_look_at_web : Cal P w K mg base 4 "look_at_web" ["thing"] (sp_look_at_web K)) (c_is_all_places : Cal P w K mg base 4 "is_all_places" ["web", "thing"] (sp_is_all_places K)) (c_tie_of : Cal P w K mg base 1 "tie_of" ["one", "other"] (sp_tie_of K)) : FnG P w K mg base CX0 5 f fd ["web", "numbers"] (sp_renumbered K) := by
  refine okG F sc_renumbered (fun vs H Q E h => ?_) (fun cdv A outer s H vs Q E hr gd h => ⟨(tSeq (tDrop (tCall (sp_look_at_web K) [] E0 (tCons (tVar 0) tNil)))
    (tSeq (tIfS (tNot (tB (tCall (sp_is_all_places K) [] E0 (tCons (tVar 0) (tCons (tVar 1) tNil))))) tNever tNext)
    (tRet (tTupG (tCons (tOp (rIxT K) (tVar 0) (tC (.int 0))) (tCons (tCB (rSortedLT K) (tCons (tLc (iList K (tOp (rIxT K) (tVar 0) (tC (.int 1)))) (gTup K 2 (gCons (gName 2) (gCons (gName 3) gNil))) tYes (tCall (sp_tie_of K) [] E0 (tCons (tOp (rIxL K) (tVar 1) (tVar 2)) (tCons (tOp (rIxL K) (tVar 1) (tVar 3)) tNil))) [2, 3]) tNil)) tNil)))))),
    PSs.nox ((pss_cons (ps_expr (pe_own c_look_at_web (hr.mono (by decide)) gd (by rfl) (pa_cons (pv 0) pa_nil)))
    (pss_cons (ps_if (pt_not (pt_val (pe_own c_is_all_places (hr.mono (by decide)) gd (by rfl) (pa_cons (pv 0) (pa_cons (pv 1) pa_nil))))) (pss_one ps_never) pss_nil)
    (pss_one (ps_ret (pe_tupG (pa_cons (pe_ix ix_tup (pv 0) pe_int (fun _ _ => rfl)) (pa_cons (pe_callB cr_sortedLT (by rfl) B.b_sorted (by decide +kernel) (pa_cons (pe_lc (own := [("one", 2), ("other", 3)]) (g := (gTup K 2 (gCons (gName 2) (gCons (gName 3) gNil)))) (tt := tYes) (by rfl) sc_renumbered.nd (pi_list (pe_ix ix_tup (pv 0) pe_int (fun _ _ => rfl))) (blkOk_by (own := [("one", 2), ("other", 3)]) (N := n_renumbered) (sc := defScope s_renumbered) (by decide +kernel)) (fun _ _ _ _ _ => (pg_tup (by rfl) (pgs_cons (pg_name (i := 2) sc_renumbered.nd rfl (Or.inl rfl)) (pgs_cons (pg_name (i := 3) sc_renumbered.nd rfl (Or.inl rfl)) pgs_nil)))) (fun _ _ _ _ _ => pts_nil) (fun _ _ _ _ _ => (pe_own c_tie_of (hr.mono (by decide)) gd (by rfl) (pa_cons (pe_ix ix_list (pv 1) (pv 2) (fun _ _ => rfl)) (pa_cons (pe_ix ix_list (pv 1) (pv 3) (fun _ _ => rfl)) pa_nil))))) pa_nil)) pa_nil)))))))), ?_⟩)
  · first | (obtain ⟨rfl, _⟩ := h; rfl) | (obtain ⟨_, rfl, _⟩ := h; rfl) | (obtain ⟨_, _, rfl, _⟩ := h; rfl) | (obtain ⟨_, _, _, rfl, _⟩ := h; rfl) | (obtain ⟨_, _, _, _, rfl, _⟩ := h; rfl) | (obtain ⟨_, _, _, _, _, rfl, _⟩ := h; rfl) | (obtain ⟨_, _, _, _, _, _, rfl, _⟩ := h; rfl) | (obtain ⟨_, _, _, _, _, _, _, rfl, _⟩ := h; rfl) | (obtain ⟨_, _, _, _, _, _, _, _, rfl, _⟩ := h; rfl) | (obtain ⟨_, _, _, _, _, _, _, _, _, rfl, _⟩ := h; rfl) | (obtain ⟨_, _, _, _, _, _, _, _, _, _, rfl, _⟩ := h; rfl) | (obtain ⟨_, _, _, _, _, _, _, _, _, _, _, rfl, _⟩ := h; rfl)
  · exact pure_renumbered h
abbrev s_law_renumbered : Stmt := topS 27
abbrev n_law_renumbered : List Str := ["_law_web_here", "_law_order", "_law_ties", "_law_one", "_law_other"]
theorem sc_law_renumbered : FnScope n_law_renumbered ["_law_web_here", "_law_order"] (defScope s_law_renumbered) := ⟨rfl, rfl, rfl, by decide +kernel, rfl, by decide +kernel, by decide +kernel⟩
theorem ok_law_renumbered {f : Addr} {fd : FuncData} (F : Fun K "_law_renumbered" "_law_renumbered" s_law_renumbered f fd) (B : Blt mg)  : FnG P w K mg base CX0 1 f fd ["_law_web_here", "_law_order"] (sp_law_renumbered K) := by
  refine okG F sc_law_renumbered (fun vs H Q E h => ?_) (fun cdv A outer s H vs Q E hr gd h => ⟨(tSeq (tAsg (tLc (iList K (tOp (rIxT K) (tVar 0) (tC (.int 1)))) (gTup K 2 (gCons (gName 3) (gCons (gName 4) gNil))) tYes (tTupG (tCons (tCB rMin2 (tCons (tOp (rIxL K) (tVar 1) (tVar 3)) (tCons (tOp (rIxL K) (tVar 1) (tVar 4)) tNil))) (tCons (tCB rMax2 (tCons (tOp (rIxL K) (tVar 1) (tVar 3)) (tCons (tOp (rIxL K) (tVar 1) (tVar 4)) tNil))) tNil))) [3, 4]) (gName 2))
    (tRet (tTupG (tCons (tOp (rIxT K) (tVar 0) (tC (.int 0))) (tCons (tCB (rSortedLT K) (tCons (tVar 2) tNil)) tNil))))),
    PSs.nox ((pss_cons (ps_setLc (i := 2) (own := [("_law_one", 3), ("_law_other", 4)]) (g := (gTup K 2 (gCons (gName 3) (gCons (gName 4) gNil)))) (tt := tYes) (by rfl) sc_law_renumbered.nd rfl rfl (sw_true rfl rfl rfl (by decide +kernel)) (pi_list (pe_ix ix_tup (pv 0) pe_int (fun _ _ => rfl))) (blkOk_by (own := [("_law_one", 3), ("_law_other", 4)]) (N := n_law_renumbered) (sc := defScope s_law_renumbered) (by decide +kernel)) (fun _ _ _ _ _ => (pg_tup (by rfl) (pgs_cons (pg_name (i := 3) sc_law_renumbered.nd rfl (Or.inl rfl)) (pgs_cons (pg_name (i := 4) sc_law_renumbered.nd rfl (Or.inl rfl)) pgs_nil)))) (fun _ _ _ _ _ => pts_nil) (fun _ _ _ _ _ => (pe_tupG (pa_cons (pe_callB (call_min2 rfl) (by rfl) B.b_min (by decide +kernel) (pa_cons (pe_ix ix_list (pv 1) (pv 3) (fun _ _ => rfl)) (pa_cons (pe_ix ix_list (pv 1) (pv 4) (fun _ _ => rfl)) pa_nil))) (pa_cons (pe_callB (call_max2 rfl) (by rfl) B.b_max (by decide +kernel) (pa_cons (pe_ix ix_list (pv 1) (pv 3) (fun _ _ => rfl)) (pa_cons (pe_ix ix_list (pv 1) (pv 4) (fun _ _ => rfl)) pa_nil))) pa_nil)))))
    (pss_one (ps_ret (pe_tupG (pa_cons (pe_ix ix_tup (pv 0) pe_int (fun _ _ => rfl)) (pa_cons (pe_callB cr_sortedLT (by rfl) B.b_sorted (by decide +kernel) (pa_cons (pv 2) pa_nil)) pa_nil))))))), ?_⟩)
  · first | (obtain ⟨rfl, _⟩ := h; rfl) | (obtain ⟨_, rfl, _⟩ := h; rfl) | (obtain ⟨_, _, rfl, _⟩ := h; rfl) | (obtain ⟨_, _, _, rfl, _⟩ := h; rfl) | (obtain ⟨_, _, _, _, rfl, _⟩ := h; rfl) | (obtain ⟨_, _, _, _, _, rfl, _⟩ := h; rfl) | (obtain ⟨_, _, _, _, _, _, rfl, _⟩ := h; rfl) | (obtain ⟨_, _, _, _, _, _, _, rfl, _⟩ := h; rfl) | (obtain ⟨_, _, _, _, _, _, _, _, rfl, _⟩ := h; rfl) | (obtain ⟨_, _, _, _, _, _, _, _, _, rfl, _⟩ := h; rfl) | (obtain ⟨_, _, _, _, _, _, _, _, _, _, rfl, _⟩ := h; rfl) | (obtain ⟨_, _, _, _, _, _, _, _, _, _, _, rfl, _⟩ := h; rfl)
  · exact pure_law_renumbered h
abbrev s_ties_by : Stmt := topS 13
abbrev n_ties_by : List Str := ["web", "tie"]
theorem sc_ties_by : FnScope n_ties_by ["web"] (defScope s_ties_by) := ⟨rfl, rfl, rfl, by decide +kernel, rfl, by decide +kernel, by decide +kernel⟩
theorem ok_ties_by {f : Addr} {fd : FuncData} (F : Fun K "ties_by" "ties_by" s_ties_by f fd) (B : Blt mg)  : FnG P w K mg base CX0 1 f fd ["web"] (sp_ties_by K) := by
  refine okG F sc_ties_by (fun vs H Q E h => ?_) (fun cdv A outer s H vs Q E hr gd h => ⟨(tRet (tCB (rDictT K) (tCons (tLc (iList K (tOp (rIxT K) (tVar 0) (tC (.int 1)))) (gName 1) tYes (tTupG (tCons (tVar 1) (tCons (tC (.bl true)) tNil))) [1]) tNil))),
    PSs.nox ((pss_one (ps_ret (pe_callTy (cr_dictT rfl hr.units) (by rfl) B.b_dict (by decide +kernel) (pa_cons (pe_lc (own := [("tie", 1)]) (g := (gName 1)) (tt := tYes) (by rfl) sc_ties_by.nd (pi_list (pe_ix ix_tup (pv 0) pe_int (fun _ _ => rfl))) (blkOk_by (own := [("tie", 1)]) (N := n_ties_by) (sc := defScope s_ties_by) (by decide +kernel)) (fun _ _ _ _ _ => (pg_name (i := 1) sc_ties_by.nd rfl (Or.inl rfl))) (fun _ _ _ _ _ => pts_nil) (fun _ _ _ _ _ => (pe_tupG (pa_cons (pv 1) (pa_cons pe_bl pa_nil))))) pa_nil))))), ?_⟩)
  · first | (obtain ⟨rfl, _⟩ := h; rfl) | (obtain ⟨_, rfl, _⟩ := h; rfl) | (obtain ⟨_, _, rfl, _⟩ := h; rfl) | (obtain ⟨_, _, _, rfl, _⟩ := h; rfl) | (obtain ⟨_, _, _, _, rfl, _⟩ := h; rfl) | (obtain ⟨_, _, _, _, _, rfl, _⟩ := h; rfl) | (obtain ⟨_, _, _, _, _, _, rfl, _⟩ := h; rfl) | (obtain ⟨_, _, _, _, _, _, _, rfl, _⟩ := h; rfl) | (obtain ⟨_, _, _, _, _, _, _, _, rfl, _⟩ := h; rfl) | (obtain ⟨_, _, _, _, _, _, _, _, _, rfl, _⟩ := h; rfl) | (obtain ⟨_, _, _, _, _, _, _, _, _, _, rfl, _⟩ := h; rfl) | (obtain ⟨_, _, _, _, _, _, _, _, _, _, _, rfl, _⟩ := h; rfl)
  · exact pure_ties_by h
abbrev s_is_naming_in : Stmt := topS 16
abbrev n_is_naming_in : List Str := ["one", "other", "thing", "known", "here", "there"]
theorem sc_is_naming_in : FnScope n_is_naming_in ["one", "other", "thing"] (defScope s_is_naming_in) := ⟨rfl, rfl, rfl, by decide +kernel, rfl, by decide +kernel, by decide +kernel⟩
theorem ok_is_naming_in {f : Addr} {fd : FuncData} (F : Fun K "is_naming_in" "is_naming_in" s_is_naming_in f fd) (B : Blt mg) (c_is_all_places : Cal P w K mg base 4 "is_all_places" ["web", "thing"] (sp_is_all_places K)) (c_ties_by : Cal P w K mg base 1 "ties_by" ["web"] (sp_ties_by K)) (c_tie_of : Cal P w K mg base 1 "tie_of" ["one", "other"] (sp_tie_of K)) : FnG P w K mg base CX0 5 f fd ["one", "other", "thing"] (sp_is_naming_in K) := by
  refine okG F sc_is_naming_in (fun vs H Q E h => ?_) (fun cdv A outer s H vs Q E hr gd h => ⟨(tSeq (tIfS (tOr (tTest (tOp rNe (tOp (rIxT K) (tVar 0) (tC (.int 0))) (tOp (rIxT K) (tVar 1) (tC (.int 0))))) (tOr (tNot (tB (tCall (sp_is_all_places K) [] E0 (tCons (tVar 1) (tCons (tVar 2) tNil))))) (tTest (tOp rNe (tCB (rLenSq K) (tCons (tOp (rIxT K) (tVar 0) (tC (.int 1))) tNil)) (tCB (rLenSq K) (tCons (tOp (rIxT K) (tVar 1) (tC (.int 1))) tNil)))))) (tRet (tC (.bl false))) tNext)
    (tSeq (tAsg (tCall (sp_ties_by K) [] E0 (tCons (tVar 1) tNil)) (gName 3))
    (tRet (tCB (rAll K) (tCons (tLc (iList K (tOp (rIxT K) (tVar 0) (tC (.int 1)))) (gTup K 2 (gCons (gName 4) (gCons (gName 5) gNil))) tYes (tDIn (tCall (sp_tie_of K) [] E0 (tCons (tOp (rIxL K) (tVar 2) (tVar 4)) (tCons (tOp (rIxL K) (tVar 2) (tVar 5)) tNil))) (tVar 3)) [4, 5]) tNil))))),
    PSs.nox ((pss_cons (ps_if (PW.pt (pw_or (pt_cmpR op_ne (pe_ix ix_tup (pv 0) pe_int (fun _ _ => rfl)) (pe_ix ix_tup (pv 1) pe_int (fun _ _ => rfl)) (nomark _)) (pw_or (pt_not (pt_val (pe_own c_is_all_places (hr.mono (by decide)) gd (by rfl) (pa_cons (pv 1) (pa_cons (pv 2) pa_nil))))) (pw_or1 (pt_cmpR op_ne (pe_callB call_len_seq (by rfl) B.b_len PySem.boot_len (pa_cons (pe_ix ix_tup (pv 0) pe_int (fun _ _ => rfl)) pa_nil)) (pe_callB call_len_seq (by rfl) B.b_len PySem.boot_len (pa_cons (pe_ix ix_tup (pv 1) pe_int (fun _ _ => rfl)) pa_nil)) (nomark _)))))) (pss_one (ps_ret pe_bl)) pss_nil)
    (pss_cons (ps_set (i := 3) sc_is_naming_in.nd rfl (Or.inr rfl) (pe_own c_ties_by (hr.mono (by decide)) gd (by rfl) (pa_cons (pv 1) pa_nil)))
    (pss_one (ps_ret (pe_callB (cr_all rfl) (by rfl) B.b_all (by decide +kernel) (pa_cons (pe_lc (own := [("here", 4), ("there", 5)]) (g := (gTup K 2 (gCons (gName 4) (gCons (gName 5) gNil)))) (tt := tYes) (by rfl) sc_is_naming_in.nd (pi_list (pe_ix ix_tup (pv 0) pe_int (fun _ _ => rfl))) (blkOk_by (own := [("here", 4), ("there", 5)]) (N := n_is_naming_in) (sc := defScope s_is_naming_in) (by decide +kernel)) (fun _ _ _ _ _ => (pg_tup (by rfl) (pgs_cons (pg_name (i := 4) sc_is_naming_in.nd rfl (Or.inl rfl)) (pgs_cons (pg_name (i := 5) sc_is_naming_in.nd rfl (Or.inl rfl)) pgs_nil)))) (fun _ _ _ _ _ => pts_nil) (fun _ _ _ _ _ => (pe_cmp (pc_din (hu_of hr) (pe_own c_tie_of (hr.mono (by decide)) gd (by rfl) (pa_cons (pe_ix ix_list (pv 2) (pv 4) (fun _ _ => rfl)) (pa_cons (pe_ix ix_list (pv 2) (pv 5) (fun _ _ => rfl)) pa_nil))) (pv 3))))) pa_nil))))))), ?_⟩)
  · first | (obtain ⟨rfl, _⟩ := h; rfl) | (obtain ⟨_, rfl, _⟩ := h; rfl) | (obtain ⟨_, _, rfl, _⟩ := h; rfl) | (obtain ⟨_, _, _, rfl, _⟩ := h; rfl) | (obtain ⟨_, _, _, _, rfl, _⟩ := h; rfl) | (obtain ⟨_, _, _, _, _, rfl, _⟩ := h; rfl) | (obtain ⟨_, _, _, _, _, _, rfl, _⟩ := h; rfl) | (obtain ⟨_, _, _, _, _, _, _, rfl, _⟩ := h; rfl) | (obtain ⟨_, _, _, _, _, _, _, _, rfl, _⟩ := h; rfl) | (obtain ⟨_, _, _, _, _, _, _, _, _, rfl, _⟩ := h; rfl) | (obtain ⟨_, _, _, _, _, _, _, _, _, _, rfl, _⟩ := h; rfl) | (obtain ⟨_, _, _, _, _, _, _, _, _, _, _, rfl, _⟩ := h; rfl)
  · exact pure_is_naming_in h
abbrev s_lets_naming : Stmt := topS 17
abbrev n_lets_naming : List Str := ["one", "other", "thing"]
theorem sc_lets_naming : FnScope n_lets_naming ["one", "other", "thing"] (defScope s_lets_naming) := ⟨rfl, rfl, rfl, by decide +kernel, rfl, by decide +kernel, by decide +kernel⟩
theorem ok_lets_naming {f : Addr} {fd : FuncData} (F : Fun K "lets_naming" "lets_naming" s_lets_naming f fd) (B : Blt mg) (c_look_at_web : Cal P w K mg base 4 "look_at_web" ["thing"] (sp_look_at_web K)) (c_is_naming_in : Cal P w K mg base 5 "is_naming_in" ["one", "other", "thing"] (sp_is_naming_in K)) : FnG P w K mg base CX0 6 f fd ["one", "other", "thing"] (sp_lets_naming K) := by
  refine okG F sc_lets_naming (fun vs H Q E h => ?_) (fun cdv A outer s H vs Q E hr gd h => ⟨(tSeq (tDrop (tCall (sp_look_at_web K) [] E0 (tCons (tVar 0) tNil)))
    (tSeq (tDrop (tCall (sp_look_at_web K) [] E0 (tCons (tVar 1) tNil)))
    (tRet (tCall (sp_is_naming_in K) [] E0 (tCons (tVar 0) (tCons (tVar 1) (tCons (tVar 2) tNil))))))),
    PSs.nox ((pss_cons (ps_expr (pe_own c_look_at_web (hr.mono (by decide)) gd (by rfl) (pa_cons (pv 0) pa_nil)))
    (pss_cons (ps_expr (pe_own c_look_at_web (hr.mono (by decide)) gd (by rfl) (pa_cons (pv 1) pa_nil)))
    (pss_one (ps_ret (pe_own c_is_naming_in (hr.mono (by decide)) gd (by rfl) (pa_cons (pv 0) (pa_cons (pv 1) (pa_cons (pv 2) pa_nil))))))))), ?_⟩)
  · first | (obtain ⟨rfl, _⟩ := h; rfl) | (obtain ⟨_, rfl, _⟩ := h; rfl) | (obtain ⟨_, _, rfl, _⟩ := h; rfl) | (obtain ⟨_, _, _, rfl, _⟩ := h; rfl) | (obtain ⟨_, _, _, _, rfl, _⟩ := h; rfl) | (obtain ⟨_, _, _, _, _, rfl, _⟩ := h; rfl) | (obtain ⟨_, _, _, _, _, _, rfl, _⟩ := h; rfl) | (obtain ⟨_, _, _, _, _, _, _, rfl, _⟩ := h; rfl) | (obtain ⟨_, _, _, _, _, _, _, _, rfl, _⟩ := h; rfl) | (obtain ⟨_, _, _, _, _, _, _, _, _, rfl, _⟩ := h; rfl) | (obtain ⟨_, _, _, _, _, _, _, _, _, _, rfl, _⟩ := h; rfl) | (obtain ⟨_, _, _, _, _, _, _, _, _, _, _, rfl, _⟩ := h; rfl)
  · exact pure_lets_naming h
abbrev s_turned_back : Stmt := topS 19
abbrev n_turned_back : List Str := ["naming", "found", "place", "other"]
theorem sc_turned_back : FnScope n_turned_back ["naming"] (defScope s_turned_back) := ⟨rfl, rfl, rfl, by decide +kernel, rfl, by decide +kernel, by decide +kernel⟩
theorem ok_turned_back {f : Addr} {fd : FuncData} (F : Fun K "turned_back" "turned_back" s_turned_back f fd) (B : Blt mg)  : FnG P w K mg base CX0 1 f fd ["naming"] (sp_turned_back K) := by
  refine okG F sc_turned_back (fun vs H Q E h => ?_) (fun cdv A outer s H vs Q E hr gd h => ⟨(tSeq (tAsg (tOp rRepG (tLstG (tCons (tC (.int 0)) tNil)) (tCB (rLenSq K) (tCons (tVar 0) tNil))) (gName 1))
    (tSeq (tFor (iEnum K (tCons (tVar 0) tNil)) (gTup K 2 (gCons (gName 2) (gCons (gName 3) gNil))) (tAsg (tVar 2) (gSub (tVar 1) (tVar 3) rSetL)))
    (tRet (tVar 1)))),
    PSs.nox ((pss_cons (ps_set (i := 1) sc_turned_back.nd rfl (Or.inl rfl) (pe_op op_repG (pe_lstG (pa_cons pe_int pa_nil)) (pe_callB call_len_seq (by rfl) B.b_len PySem.boot_len (pa_cons (pv 0) pa_nil))))
    (pss_cons (ps_for PassesOwn.never rfl (pi_enum (by rfl) B.b_enumerate (pa_cons (pv 0) pa_nil)) (pg_tup (by rfl) (pgs_cons (pg_name (i := 2) sc_turned_back.nd rfl (Or.inl rfl)) (pgs_cons (pg_name (i := 3) sc_turned_back.nd rfl (Or.inl rfl)) pgs_nil))) (pss_one (ps_asg (pv 2) (pg_sub (pv 1) (pv 3) set_list))))
    (pss_one (ps_ret (pv 1)))))), ?_⟩)
  · first | (obtain ⟨rfl, _⟩ := h; rfl) | (obtain ⟨_, rfl, _⟩ := h; rfl) | (obtain ⟨_, _, rfl, _⟩ := h; rfl) | (obtain ⟨_, _, _, rfl, _⟩ := h; rfl) | (obtain ⟨_, _, _, _, rfl, _⟩ := h; rfl) | (obtain ⟨_, _, _, _, _, rfl, _⟩ := h; rfl) | (obtain ⟨_, _, _, _, _, _, rfl, _⟩ := h; rfl) | (obtain ⟨_, _, _, _, _, _, _, rfl, _⟩ := h; rfl) | (obtain ⟨_, _, _, _, _, _, _, _, rfl, _⟩ := h; rfl) | (obtain ⟨_, _, _, _, _, _, _, _, _, rfl, _⟩ := h; rfl) | (obtain ⟨_, _, _, _, _, _, _, _, _, _, rfl, _⟩ := h; rfl) | (obtain ⟨_, _, _, _, _, _, _, _, _, _, _, rfl, _⟩ := h; rfl)
  · exact pure_turned_back h
abbrev s_behind : Stmt := topS 20
abbrev n_behind : List Str := ["first", "second", "place"]
theorem sc_behind : FnScope n_behind ["first", "second"] (defScope s_behind) := ⟨rfl, rfl, rfl, by decide +kernel, rfl, by decide +kernel, by decide +kernel⟩
theorem ok_behind {f : Addr} {fd : FuncData} (F : Fun K "behind" "behind" s_behind f fd) (B : Blt mg)  : FnG P w K mg base CX0 1 f fd ["first", "second"] (sp_behind K) := by
  refine okG F sc_behind (fun vs H Q E h => ?_) (fun cdv A outer s H vs Q E hr gd h => ⟨(tRet (tLc (iList K (tVar 0)) (gName 2) tYes (tOp (rIxL K) (tVar 1) (tVar 2)) [2])),
    PSs.nox ((pss_one (ps_ret (pe_lc (own := [("place", 2)]) (g := (gName 2)) (tt := tYes) (by rfl) sc_behind.nd (pi_list (pv 0)) (blkOk_by (own := [("place", 2)]) (N := n_behind) (sc := defScope s_behind) (by decide +kernel)) (fun _ _ _ _ _ => (pg_name (i := 2) sc_behind.nd rfl (Or.inl rfl))) (fun _ _ _ _ _ => pts_nil) (fun _ _ _ _ _ => (pe_ix ix_list (pv 1) (pv 2) (fun _ _ => rfl))))))), ?_⟩)
  · first | (obtain ⟨rfl, _⟩ := h; rfl) | (obtain ⟨_, rfl, _⟩ := h; rfl) | (obtain ⟨_, _, rfl, _⟩ := h; rfl) | (obtain ⟨_, _, _, rfl, _⟩ := h; rfl) | (obtain ⟨_, _, _, _, rfl, _⟩ := h; rfl) | (obtain ⟨_, _, _, _, _, rfl, _⟩ := h; rfl) | (obtain ⟨_, _, _, _, _, _, rfl, _⟩ := h; rfl) | (obtain ⟨_, _, _, _, _, _, _, rfl, _⟩ := h; rfl) | (obtain ⟨_, _, _, _, _, _, _, _, rfl, _⟩ := h; rfl) | (obtain ⟨_, _, _, _, _, _, _, _, _, rfl, _⟩ := h; rfl) | (obtain ⟨_, _, _, _, _, _, _, _, _, _, rfl, _⟩ := h; rfl) | (obtain ⟨_, _, _, _, _, _, _, _, _, _, _, rfl, _⟩ := h; rfl)
  · exact pure_behind h
abbrev s_law_right : Stmt := topS 28
abbrev n_law_right : List Str := ["_law_pool_here", "_law_web_here", "_law_first", "_law_second", "_law_handed", "_law_other", "_law_back", "_law_both", "_law_place"]
theorem sc_law_right : FnScope n_law_right ["_law_pool_here"] (defScope s_law_right) := ⟨rfl, rfl, rfl, by decide +kernel, rfl, by decide +kernel, by decide +kernel⟩
theorem ok_law_right {f : Addr} {fd : FuncData} (F : Fun K "_law_right" "_law_right" s_law_right f fd) (B : Blt mg) (c_bloose : Cal P w K mg base 3 "_law_loose" ["_law_pool_here", "_law_most", "_law_more"] (sp_bloose K)) (c_btake : Cal P w K mg base 1 "_law_take" ["_law_pool_here", "_law_many"] (sp_btake K)) (c_bshuf : Cal P w K mg base 2 "_law_shuffled" ["_law_pool_here", "_law_many"] (sp_bshuf K)) (c_renumbered : Cal P w K mg base 5 "renumbered" ["web", "numbers"] (sp_renumbered K)) (c_law_renumbered : Cal P w K mg base 1 "_law_renumbered" ["_law_web_here", "_law_order"] (sp_law_renumbered K)) (c_lets_naming : Cal P w K mg base 6 "lets_naming" ["one", "other", "thing"] (sp_lets_naming K)) (c_turned_back : Cal P w K mg base 1 "turned_back" ["naming"] (sp_turned_back K)) (c_behind : Cal P w K mg base 1 "behind" ["first", "second"] (sp_behind K)) (kw_lets_naming_2_thing : CalK P w K mg base 6 "lets_naming" ["one", "other", "thing"] ["thing"] (fun vs zs => match vs, zs with | [a0, a1], [k0] => [a0, a1, k0] | _, _ => []) (sp_lets_naming K)) : FnG P w K mg base CX0 7 f fd ["_law_pool_here"] (sp_law_right K) := by
  refine okG F sc_law_right (fun vs H Q E h => ?_) (fun cdv A outer s H vs Q E hr gd h => ⟨(tSeq (tAsg (tCall (sp_bloose K) [] E0 (tCons (tVar 0) (tCons (tOp (rIxL K) (tLstG (tCons (tC (.int 1)) (tCons (tC (.int 2)) (tCons (tC (.int 5)) (tCons (tC (.int 9)) (tCons (tC (.int 40)) tNil)))))) (tCall (sp_btake K) [] E0 (tCons (tVar 0) (tCons (tC (.int 5)) tNil)))) (tCons (tC (.int 8)) tNil)))) (gName 1))
    (tSeq (tAsg (tCall (sp_bshuf K) [] E0 (tCons (tVar 0) (tCons (tOp (rIxT K) (tVar 1) (tC (.int 0))) tNil))) (gName 2))
    (tSeq (tAsg (tCall (sp_bshuf K) [] E0 (tCons (tVar 0) (tCons (tOp (rIxT K) (tVar 1) (tC (.int 0))) tNil))) (gName 3))
    (tSeq (tAsg (tCB (rRepr K) (tCons (tLstG (tCons (tVar 1) (tCons (tVar 2) (tCons (tVar 3) tNil)))) tNil)) (gName 4))
    (tSeq (tAsg (tCall (sp_renumbered K) [] E0 (tCons (tVar 1) (tCons (tVar 2) tNil))) (gName 5))
    (tSeq (tIfS (tOr (tTest (tOp rNe (tCB (rRepr K) (tCons (tVar 5) tNil)) (tCB (rRepr K) (tCons (tCall (sp_law_renumbered K) [] E0 (tCons (tVar 1) (tCons (tVar 2) tNil))) tNil)))) (tTest (tOp rNotBb (tCallK (sp_lets_naming K) (fun vs zs => match vs, zs with | [a0, a1], [k0] => [a0, a1, k0] | _, _ => []) E0 (tCons (tVar 1) (tCons (tVar 5) tNil)) (tCons (tVar 2) tNil)) (tC (.bl true))))) (tRet (tC (.bl false))) tNext)
    (tSeq (tAsg (tCall (sp_turned_back K) [] E0 (tCons (tVar 2) tNil)) (gName 6))
    (tSeq (tIfS (tOr (tTest (tOp rNe (tCB (rRepr K) (tCons (tVar 6) tNil)) (tCB (rRepr K) (tCons (tLc (iRng1 (tCons (tOp (rIxT K) (tVar 1) (tC (.int 0))) tNil)) (gName 8) tYes (tBM K "list" (rIndex K) (tVar 2) (tCons (tVar 8) tNil)) [8]) tNil)))) (tTest (tOp (rNeD K) (tCall (sp_renumbered K) [] E0 (tCons (tVar 5) (tCons (tVar 6) tNil))) (tVar 1)))) (tRet (tC (.bl false))) tNext)
    (tSeq (tAsg (tCall (sp_behind K) [] E0 (tCons (tVar 2) (tCons (tVar 3) tNil))) (gName 7))
    (tSeq (tIfS (tOr (tTest (tOp rNe (tCB (rRepr K) (tCons (tVar 7) tNil)) (tCB (rRepr K) (tCons (tLc (iList K (tVar 2)) (gName 8) tYes (tOp (rIxL K) (tVar 3) (tVar 8)) [8]) tNil)))) (tTest (tOp (rNeD K) (tCall (sp_renumbered K) [] E0 (tCons (tVar 5) (tCons (tVar 3) tNil))) (tCall (sp_renumbered K) [] E0 (tCons (tVar 1) (tCons (tVar 7) tNil)))))) (tRet (tC (.bl false))) tNext)
    (tSeq (tIfS (tOr (tTest (tOp (rNeD K) (tCall (sp_behind K) [] E0 (tCons (tVar 2) (tCons (tVar 6) tNil))) (tLstRgG (tRg1 (tOp (rIxT K) (tVar 1) (tC (.int 0))))))) (tTest (tOp (rNeD K) (tCall (sp_turned_back K) [] E0 (tCons (tVar 6) tNil)) (tVar 2)))) (tRet (tC (.bl false))) tNext)
    (tSeq (tDrop (tBM K "list" rAppend (tOp (rIxT K) (tVar 5) (tC (.int 1))) (tCons (tTupG (tCons (tC (.int 0)) (tCons (tC (.int 0)) tNil))) tNil)))
    (tSeq (tDrop (tBM K "list" rAppend (tVar 6) (tCons (tC (.int 0)) tNil)))
    (tSeq (tDrop (tBM0 K "list" rClear (tVar 7)))
    (tRet (tOp rEq (tCB (rRepr K) (tCons (tLstG (tCons (tVar 1) (tCons (tVar 2) (tCons (tVar 3) tNil)))) tNil)) (tVar 4))))))))))))))))),
    PSs.nox ((pss_cons (ps_set (i := 1) sc_law_right.nd rfl (Or.inl rfl) (pe_own c_bloose (hr.mono (by decide)) gd (by rfl) (pa_cons (pv 0) (pa_cons (pe_ix ix_list (pe_lstG (pa_cons pe_int (pa_cons pe_int (pa_cons pe_int (pa_cons pe_int (pa_cons pe_int pa_nil)))))) (pe_own c_btake (hr.mono (by decide)) gd (by rfl) (pa_cons (pv 0) (pa_cons pe_int pa_nil))) (fun _ _ => rfl)) (pa_cons pe_int pa_nil)))))
    (pss_cons (ps_set (i := 2) sc_law_right.nd rfl (Or.inr rfl) (pe_own c_bshuf (hr.mono (by decide)) gd (by rfl) (pa_cons (pv 0) (pa_cons (pe_ix ix_tup (pv 1) pe_int (fun _ _ => rfl)) pa_nil))))
    (pss_cons (ps_set (i := 3) sc_law_right.nd rfl (Or.inr rfl) (pe_own c_bshuf (hr.mono (by decide)) gd (by rfl) (pa_cons (pv 0) (pa_cons (pe_ix ix_tup (pv 1) pe_int (fun _ _ => rfl)) pa_nil))))
    (pss_cons (ps_set (i := 4) sc_law_right.nd rfl (Or.inl rfl) (pe_callB (cr_repr hr gd) (by rfl) B.b_repr (by decide +kernel) (pa_cons (pe_lstG (pa_cons (pv 1) (pa_cons (pv 2) (pa_cons (pv 3) pa_nil)))) pa_nil)))
    (pss_cons (ps_set (i := 5) sc_law_right.nd rfl (Or.inl rfl) (pe_own c_renumbered (hr.mono (by decide)) gd (by rfl) (pa_cons (pv 1) (pa_cons (pv 2) pa_nil))))
    (pss_cons (ps_if (PW.pt (pw_or (pt_cmpR op_ne (pe_callB (cr_repr hr gd) (by rfl) B.b_repr (by decide +kernel) (pa_cons (pv 5) pa_nil)) (pe_callB (cr_repr hr gd) (by rfl) B.b_repr (by decide +kernel) (pa_cons (pe_own c_law_renumbered (hr.mono (by decide)) gd (by rfl) (pa_cons (pv 1) (pa_cons (pv 2) pa_nil))) pa_nil)) (nomark _)) (pw_or1 (pt_cmpR op_isnot_bl (pe_ownK kw_lets_naming_2_thing (hr.mono (by decide)) gd (by rfl) (pa_cons (pv 1) (pa_cons (pv 5) pa_nil)) (pk_cons (pv 2) pk_nil)) pe_bl (nomark _))))) (pss_one (ps_ret pe_bl)) pss_nil)
    (pss_cons (ps_set (i := 6) sc_law_right.nd rfl (Or.inl rfl) (pe_own c_turned_back (hr.mono (by decide)) gd (by rfl) (pa_cons (pv 2) pa_nil)))
    (pss_cons (ps_if (PW.pt (pw_or (pt_cmpR op_ne (pe_callB (cr_repr hr gd) (by rfl) B.b_repr (by decide +kernel) (pa_cons (pv 6) pa_nil)) (pe_callB (cr_repr hr gd) (by rfl) B.b_repr (by decide +kernel) (pa_cons (pe_lc (own := [("_law_place", 8)]) (g := (gName 8)) (tt := tYes) (by rfl) sc_law_right.nd (pi_range1 (by rfl) B.b_range (pa_cons (pe_ix ix_tup (pv 1) pe_int (fun _ _ => rfl)) pa_nil)) (blkOk_by (own := [("_law_place", 8)]) (N := n_law_right) (sc := defScope s_law_right) (by decide +kernel)) (fun _ _ _ _ _ => (pg_name (i := 8) sc_law_right.nd rfl (Or.inl rfl))) (fun _ _ _ _ _ => pts_nil) (fun _ _ _ _ _ => (pe_bm PySem.F.plainAttrs_list PySem.F.slot_list_index PySem.F.type_list_index mt_index (pv 2) (pa_cons (pv 8) pa_nil)))) pa_nil)) (nomark _)) (pw_or1 (pt_cmpR (op_neD hr.units) (pe_own c_renumbered (hr.mono (by decide)) gd (by rfl) (pa_cons (pv 5) (pa_cons (pv 6) pa_nil))) (pv 1) (nomark _))))) (pss_one (ps_ret pe_bl)) pss_nil)
    (pss_cons (ps_set (i := 7) sc_law_right.nd rfl (Or.inl rfl) (pe_own c_behind (hr.mono (by decide)) gd (by rfl) (pa_cons (pv 2) (pa_cons (pv 3) pa_nil))))
    (pss_cons (ps_if (PW.pt (pw_or (pt_cmpR op_ne (pe_callB (cr_repr hr gd) (by rfl) B.b_repr (by decide +kernel) (pa_cons (pv 7) pa_nil)) (pe_callB (cr_repr hr gd) (by rfl) B.b_repr (by decide +kernel) (pa_cons (pe_lc (own := [("_law_place", 8)]) (g := (gName 8)) (tt := tYes) (by rfl) sc_law_right.nd (pi_list (pv 2)) (blkOk_by (own := [("_law_place", 8)]) (N := n_law_right) (sc := defScope s_law_right) (by decide +kernel)) (fun _ _ _ _ _ => (pg_name (i := 8) sc_law_right.nd rfl (Or.inl rfl))) (fun _ _ _ _ _ => pts_nil) (fun _ _ _ _ _ => (pe_ix ix_list (pv 3) (pv 8) (fun _ _ => rfl)))) pa_nil)) (nomark _)) (pw_or1 (pt_cmpR (op_neD hr.units) (pe_own c_renumbered (hr.mono (by decide)) gd (by rfl) (pa_cons (pv 5) (pa_cons (pv 3) pa_nil))) (pe_own c_renumbered (hr.mono (by decide)) gd (by rfl) (pa_cons (pv 1) (pa_cons (pv 7) pa_nil))) (nomark _))))) (pss_one (ps_ret pe_bl)) pss_nil)
    (pss_cons (ps_if (PW.pt (pw_or (pt_cmpR (op_neD hr.units) (pe_own c_behind (hr.mono (by decide)) gd (by rfl) (pa_cons (pv 2) (pa_cons (pv 6) pa_nil))) (pe_listRgG (by rfl) (by rfl) B.b_list (prg_1 (by rfl) B.b_range (pe_ix ix_tup (pv 1) pe_int (fun _ _ => rfl)))) (nomark _)) (pw_or1 (pt_cmpR (op_neD hr.units) (pe_own c_turned_back (hr.mono (by decide)) gd (by rfl) (pa_cons (pv 6) pa_nil)) (pv 2) (nomark _))))) (pss_one (ps_ret pe_bl)) pss_nil)
    (pss_cons (ps_expr (pe_bm PySem.F.plainAttrs_list PySem.F.slot_list_append PySem.F.type_list_append mt_append (pe_ix ix_tup (pv 5) pe_int (fun _ _ => rfl)) (pa_cons (pe_tupG (pa_cons pe_int (pa_cons pe_int pa_nil))) pa_nil)))
    (pss_cons (ps_expr (pe_bm PySem.F.plainAttrs_list PySem.F.slot_list_append PySem.F.type_list_append mt_append (pv 6) (pa_cons pe_int pa_nil)))
    (pss_cons (ps_expr (pe_bm0 PySem.F.plainAttrs_list PySem.F.slot_list_clear PySem.F.type_list_clear mt_clear (pv 7)))
    (pss_one (ps_ret (pe_cmpR op_eq (pe_callB (cr_repr hr gd) (by rfl) B.b_repr (by decide +kernel) (pa_cons (pe_lstG (pa_cons (pv 1) (pa_cons (pv 2) (pa_cons (pv 3) pa_nil)))) pa_nil)) (pv 4) (nomark _))))))))))))))))))), ?_⟩)
  · first | (obtain ⟨rfl, _⟩ := h; rfl) | (obtain ⟨_, rfl, _⟩ := h; rfl) | (obtain ⟨_, _, rfl, _⟩ := h; rfl) | (obtain ⟨_, _, _, rfl, _⟩ := h; rfl) | (obtain ⟨_, _, _, _, rfl, _⟩ := h; rfl) | (obtain ⟨_, _, _, _, _, rfl, _⟩ := h; rfl) | (obtain ⟨_, _, _, _, _, _, rfl, _⟩ := h; rfl) | (obtain ⟨_, _, _, _, _, _, _, rfl, _⟩ := h; rfl) | (obtain ⟨_, _, _, _, _, _, _, _, rfl, _⟩ := h; rfl) | (obtain ⟨_, _, _, _, _, _, _, _, _, rfl, _⟩ := h; rfl) | (obtain ⟨_, _, _, _, _, _, _, _, _, _, rfl, _⟩ := h; rfl) | (obtain ⟨_, _, _, _, _, _, _, _, _, _, _, rfl, _⟩ := h; rfl)
  · exact pure_law_right h
abbrev s_bpool : Stmt := topS 22
abbrev n_bpool : List Str := ["_law_script", "_law_k", "_law_cell", "_law_number", "_law_great"]
theorem sc_bpool : FnScope n_bpool ["_law_script", "_law_k"] (defScope s_bpool) := ⟨rfl, rfl, rfl, by decide +kernel, rfl, by decide +kernel, by decide +kernel⟩
theorem ok_bpool {f : Addr} {fd : FuncData} (F : Fun K "_law_pool" "_law_pool" s_bpool f fd) (B : Blt mg)  : FnG P w K mg base CX0 1 f fd ["_law_script", "_law_k"] (sp_bpool K) := by
  refine okG F sc_bpool (fun vs H Q E h => ?_) (fun cdv A outer s H vs Q E hr gd h => ⟨(tSeq (tAsg (tC (.int 0)) (gName 2))
    (tSeq (tIfS (tTest (tOp rLt (tVar 1) (tCB (rLenSq K) (tCons (tVar 0) tNil)))) (tAsg (tOp (rIxL K) (tVar 0) (tVar 1)) (gName 2)) tNext)
    (tSeq (tAsg (tOp rMod (tOp rAdd (tOp rAdd (tOp rAdd (tCB rMax2 (tCons (tVar 2) (tCons (tOp rSub (tUn rNeg (tC (.int 1))) (tVar 2)) tNil))) (tOp rMul (tOp rMul (tC (.int 7919)) (tVar 1)) (tVar 1))) (tOp rMul (tC (.int 104729)) (tVar 1))) (tC (.int 17))) (tC (.int 2147483629))) (gName 3))
    (tSeq (tAsg (tC (.int 0)) (gName 4))
    (tSeq (tIfS (tTest (tOp rGe (tVar 2) (tOp rPow (tC (.int 10)) (tC (.int 18))))) (tAsg (tVar 2) (gName 4)) tNext)
    (tRet (tLstG (tCons (tVar 4) (tCons (tOp rMod (tOp rMul (tVar 3) (tC (.int 48271))) (tC (.int 2147483647))) tNil))))))))),
    PSs.nox ((pss_cons (ps_set (i := 2) sc_bpool.nd rfl (Or.inl rfl) pe_int)
    (pss_cons (ps_if (pt_cmpR op_lt (pv 1) (pe_callB call_len_seq (by rfl) B.b_len PySem.boot_len (pa_cons (pv 0) pa_nil)) (nomark _)) (pss_one (ps_set (i := 2) sc_bpool.nd rfl (Or.inl rfl) (pe_ix ix_list (pv 0) (pv 1) (fun _ _ => rfl)))) pss_nil)
    (pss_cons (ps_set (i := 3) sc_bpool.nd rfl (Or.inl rfl) (pe_op op_mod (pe_op op_add (pe_op op_add (pe_op op_add (pe_callB (call_max2 rfl) (by rfl) B.b_max (by decide +kernel) (pa_cons (pv 2) (pa_cons (pe_op op_sub (pe_un un_neg pe_int) (pv 2)) pa_nil))) (pe_op op_mul (pe_op op_mul pe_int (pv 1)) (pv 1))) (pe_op op_mul pe_int (pv 1))) pe_int) pe_int))
    (pss_cons (ps_set (i := 4) sc_bpool.nd rfl (Or.inl rfl) pe_int)
    (pss_cons (ps_if (pt_cmpR op_ge (pv 2) (pe_op op_pow pe_int pe_int) (nomark _)) (pss_one (ps_set (i := 4) sc_bpool.nd rfl (Or.inl rfl) (pv 2))) pss_nil)
    (pss_one (ps_ret (pe_lstG (pa_cons (pv 4) (pa_cons (pe_op op_mod (pe_op op_mul (pv 3) pe_int) pe_int) pa_nil))))))))))), ?_⟩)
  · first | (obtain ⟨rfl, _⟩ := h; rfl) | (obtain ⟨_, rfl, _⟩ := h; rfl) | (obtain ⟨_, _, rfl, _⟩ := h; rfl) | (obtain ⟨_, _, _, rfl, _⟩ := h; rfl) | (obtain ⟨_, _, _, _, rfl, _⟩ := h; rfl) | (obtain ⟨_, _, _, _, _, rfl, _⟩ := h; rfl) | (obtain ⟨_, _, _, _, _, _, rfl, _⟩ := h; rfl) | (obtain ⟨_, _, _, _, _, _, _, rfl, _⟩ := h; rfl) | (obtain ⟨_, _, _, _, _, _, _, _, rfl, _⟩ := h; rfl) | (obtain ⟨_, _, _, _, _, _, _, _, _, rfl, _⟩ := h; rfl) | (obtain ⟨_, _, _, _, _, _, _, _, _, _, rfl, _⟩ := h; rfl) | (obtain ⟨_, _, _, _, _, _, _, _, _, _, _, rfl, _⟩ := h; rfl)
  · exact pure_bpool h
abbrev s_law : Stmt := topS 29
abbrev n_law : List Str := ["_law_script", "_law_k"]
theorem sc_law : FnScope n_law ["_law_script"] (defScope s_law) := ⟨rfl, rfl, rfl, by decide +kernel, rfl, by decide +kernel, by decide +kernel⟩
theorem ok_law {f : Addr} {fd : FuncData} (F : Fun K "law" "law" s_law f fd) (B : Blt mg) (c_law_right : Cal P w K mg base 7 "_law_right" ["_law_pool_here"] (sp_law_right K)) (c_bpool : Cal P w K mg base 1 "_law_pool" ["_law_script", "_law_k"] (sp_bpool K)) : FnG P w K mg base CX0 8 f fd ["_law_script"] (sp_law K) := by
  refine okG F sc_law (fun vs H Q E h => ?_) (fun cdv A outer s H vs Q E hr gd h => ⟨(tSeq (tFor (iRng1 (tCons (tCB rMax2 (tCons (tC (.int 1)) (tCons (tCB rMin2 (tCons (tCB (rLenSq K) (tCons (tVar 0) tNil)) (tCons (tC (.int 10)) tNil))) tNil))) tNil)) (gName 1) (tIfS (tNot (tB (tCall (sp_law_right K) [] E0 (tCons (tCall (sp_bpool K) [] E0 (tCons (tVar 0) (tCons (tVar 1) tNil))) tNil)))) (tRet (tC (.bl false))) tNext))
    (tRet (tC (.bl true)))),
    PSs.nox ((pss_cons (ps_for PassesOwn.never rfl (pi_range1 (by rfl) B.b_range (pa_cons (pe_callB (call_max2 rfl) (by rfl) B.b_max (by decide +kernel) (pa_cons pe_int (pa_cons (pe_callB (call_min2 rfl) (by rfl) B.b_min (by decide +kernel) (pa_cons (pe_callB call_len_seq (by rfl) B.b_len PySem.boot_len (pa_cons (pv 0) pa_nil)) (pa_cons pe_int pa_nil))) pa_nil))) pa_nil)) (pg_name (i := 1) sc_law.nd rfl (Or.inl rfl)) (pss_one (ps_if (pt_not (pt_val (pe_own c_law_right (hr.mono (by decide)) gd (by rfl) (pa_cons (pe_own c_bpool (hr.mono (by decide)) gd (by rfl) (pa_cons (pv 0) (pa_cons (pv 1) pa_nil))) pa_nil)))) (pss_one (ps_ret pe_bl)) pss_nil)))
    (pss_one (ps_ret pe_bl)))), ?_⟩)
  · first | (obtain ⟨rfl, _⟩ := h; rfl) | (obtain ⟨_, rfl, _⟩ := h; rfl) | (obtain ⟨_, _, rfl, _⟩ := h; rfl) | (obtain ⟨_, _, _, rfl, _⟩ := h; rfl) | (obtain ⟨_, _, _, _, rfl, _⟩ := h; rfl) | (obtain ⟨_, _, _, _, _, rfl, _⟩ := h; rfl) | (obtain ⟨_, _, _, _, _, _, rfl, _⟩ := h; rfl) | (obtain ⟨_, _, _, _, _, _, _, rfl, _⟩ := h; rfl) | (obtain ⟨_, _, _, _, _, _, _, _, rfl, _⟩ := h; rfl) | (obtain ⟨_, _, _, _, _, _, _, _, _, rfl, _⟩ := h; rfl) | (obtain ⟨_, _, _, _, _, _, _, _, _, _, rfl, _⟩ := h; rfl) | (obtain ⟨_, _, _, _, _, _, _, _, _, _, _, rfl, _⟩ := h; rfl)
  · exact pure_law h
end
theorem kb_kw_lets_naming_2_thing {K : PySem.W.Frag} {f : Addr} {fd : FuncData} (F : Fun K "lets_naming" "lets_naming" s_lets_naming f fd) : KBinds K fd ["one", "other", "thing"] ["thing"] (fun vs zs => match vs, zs with | [a0, a1], [k0] => [a0, a1, k0] | _, _ => []) (fun vs zs => match vs, zs with | [a0, a1], [k0] => [a0, a1, k0] | _, _ => []) := by
  obtain ⟨oc, od, kV, doc, pm, an, cdv, ct, osl, rfl, lk, hcd⟩ := F.ex
  refine ⟨fun s us ws _ hl => ?_, fun {vs us zs ws} r1 r2 => ?_⟩
  · match us, ws, hl with
    | [a0, a1], [k0], _ => exact .of_eq rfl
  · skip
    rcases r1 with _ | ⟨a0, r1⟩
    · exact .nil
    · skip
      rcases r1 with _ | ⟨a1, r1⟩
      · exact .nil
      · skip
        rcases r1 with _ | ⟨_, _⟩
        rotate_left
        · exact .nil
        · skip
          rcases r2 with _ | ⟨k0, r2⟩
          · exact .nil
          · skip
            rcases r2 with _ | ⟨_, _⟩
            rotate_left
            · exact .nil
            · skip
              exact .cons a0 (.cons a1 (.cons k0 (.nil)))
theorem all_mk {l : PySem.W.OpenLaw} {w : World} {K : PySem.W.Frag} {h : Heap} {mg : Str → Option Value} {fa f0 f1 f2 f3 f4 f5 f6 f7 f8 f9 f10 f11 f12 f13 f14 f15 f16 f17 f18 f19 f20 : Addr} (X : K.In h) (G : h.Ns mainGlobals mg) (hfa : mg "law" = some (.ref fa))
    {od0 an0 : Option Addr} {sl0 : Array (Option Value)} {oc0 kV0 dc0 pm0 cd0 ct0 : Value} {od1 an1 : Option Addr} {sl1 : Array (Option Value)} {oc1 kV1 dc1 pm1 cd1 ct1 : Value} {od2 an2 : Option Addr} {sl2 : Array (Option Value)} {oc2 kV2 dc2 pm2 cd2 ct2 : Value} {od3 an3 : Option Addr} {sl3 : Array (Option Value)} {oc3 kV3 dc3 pm3 cd3 ct3 : Value} {od4 an4 : Option Addr} {sl4 : Array (Option Value)} {oc4 kV4 dc4 pm4 cd4 ct4 : Value} {od5 an5 : Option Addr} {sl5 : Array (Option Value)} {oc5 kV5 dc5 pm5 cd5 ct5 : Value} {od6 an6 : Option Addr} {sl6 : Array (Option Value)} {oc6 kV6 dc6 pm6 cd6 ct6 : Value} {od7 an7 : Option Addr} {sl7 : Array (Option Value)} {oc7 kV7 dc7 pm7 cd7 ct7 : Value} {od8 an8 : Option Addr} {sl8 : Array (Option Value)} {oc8 kV8 dc8 pm8 cd8 ct8 : Value} {od9 an9 : Option Addr} {sl9 : Array (Option Value)} {oc9 kV9 dc9 pm9 cd9 ct9 : Value} {od10 an10 : Option Addr} {sl10 : Array (Option Value)} {oc10 kV10 dc10 pm10 cd10 ct10 : Value} {od11 an11 : Option Addr} {sl11 : Array (Option Value)} {oc11 kV11 dc11 pm11 cd11 ct11 : Value} {od12 an12 : Option Addr} {sl12 : Array (Option Value)} {oc12 kV12 dc12 pm12 cd12 ct12 : Value} {od13 an13 : Option Addr} {sl13 : Array (Option Value)} {oc13 kV13 dc13 pm13 cd13 ct13 : Value} {od14 an14 : Option Addr} {sl14 : Array (Option Value)} {oc14 kV14 dc14 pm14 cd14 ct14 : Value} {od15 an15 : Option Addr} {sl15 : Array (Option Value)} {oc15 kV15 dc15 pm15 cd15 ct15 : Value} {od16 an16 : Option Addr} {sl16 : Array (Option Value)} {oc16 kV16 dc16 pm16 cd16 ct16 : Value} {od17 an17 : Option Addr} {sl17 : Array (Option Value)} {oc17 kV17 dc17 pm17 cd17 ct17 : Value} {od18 an18 : Option Addr} {sl18 : Array (Option Value)} {oc18 kV18 dc18 pm18 cd18 ct18 : Value} {od19 an19 : Option Addr} {sl19 : Array (Option Value)} {oc19 kV19 dc19 pm19 cd19 ct19 : Value} {od20 an20 : Option Addr} {sl20 : Array (Option Value)} {oc20 kV20 dc20 pm20 cd20 ct20 : Value} {tg_MOST_PLACES : Tok} {tg_MOST_TIES : Tok}
    (a0 : PySem.W.nsIn K mainGlobals "_law_take" = some (some (.ref f0))) (l0 : K.lookup f0 = some ⟨oc0, od0, .func (PySem.W.fnOf "_law_take" "_law_take" (defArgs s_btake) (defBody s_btake) (defScope s_btake) .none kV0 dc0 pm0 an0 cd0 ct0), sl0⟩) (c0 : PySem.W.codeIn K cd0 "_law_take" = true) (k0 : PySem.W.keepIn K (.ref f0) = true)
    (a1 : PySem.W.nsIn K mainGlobals "_law_web" = some (some (.ref f1))) (l1 : K.lookup f1 = some ⟨oc1, od1, .func (PySem.W.fnOf "_law_web" "_law_web" (defArgs s_bweb) (defBody s_bweb) (defScope s_bweb) .none kV1 dc1 pm1 an1 cd1 ct1), sl1⟩) (c1 : PySem.W.codeIn K cd1 "_law_web" = true) (k1 : PySem.W.keepIn K (.ref f1) = true)
    (a2 : PySem.W.nsIn K mainGlobals "_law_loose" = some (some (.ref f2))) (l2 : K.lookup f2 = some ⟨oc2, od2, .func (PySem.W.fnOf "_law_loose" "_law_loose" (defArgs s_bloose) (defBody s_bloose) (defScope s_bloose) .none kV2 dc2 pm2 an2 cd2 ct2), sl2⟩) (c2 : PySem.W.codeIn K cd2 "_law_loose" = true) (k2 : PySem.W.keepIn K (.ref f2) = true)
    (a3 : PySem.W.nsIn K mainGlobals "_law_shuffled" = some (some (.ref f3))) (l3 : K.lookup f3 = some ⟨oc3, od3, .func (PySem.W.fnOf "_law_shuffled" "_law_shuffled" (defArgs s_bshuf) (defBody s_bshuf) (defScope s_bshuf) .none kV3 dc3 pm3 an3 cd3 ct3), sl3⟩) (c3 : PySem.W.codeIn K cd3 "_law_shuffled" = true) (k3 : PySem.W.keepIn K (.ref f3) = true)
    (a4 : PySem.W.nsIn K mainGlobals "is_whole" = some (some (.ref f4))) (l4 : K.lookup f4 = some ⟨oc4, od4, .func (PySem.W.fnOf "is_whole" "is_whole" (defArgs s_is_whole) (defBody s_is_whole) (defScope s_is_whole) .none kV4 dc4 pm4 an4 cd4 ct4), sl4⟩) (c4 : PySem.W.codeIn K cd4 "is_whole" = true) (k4 : PySem.W.keepIn K (.ref f4) = true)
    (a5 : PySem.W.nsIn K mainGlobals "is_within" = some (some (.ref f5))) (l5 : K.lookup f5 = some ⟨oc5, od5, .func (PySem.W.fnOf "is_within" "is_within" (defArgs s_is_within) (defBody s_is_within) (defScope s_is_within) .none kV5 dc5 pm5 an5 cd5 ct5), sl5⟩) (c5 : PySem.W.codeIn K cd5 "is_within" = true) (k5 : PySem.W.keepIn K (.ref f5) = true)
    (a6 : PySem.W.nsIn K mainGlobals "is_tie" = some (some (.ref f6))) (l6 : K.lookup f6 = some ⟨oc6, od6, .func (PySem.W.fnOf "is_tie" "is_tie" (defArgs s_is_tie) (defBody s_is_tie) (defScope s_is_tie) .none kV6 dc6 pm6 an6 cd6 ct6), sl6⟩) (c6 : PySem.W.codeIn K cd6 "is_tie" = true) (k6 : PySem.W.keepIn K (.ref f6) = true)
    (a7 : PySem.W.nsIn K mainGlobals "look_at_web" = some (some (.ref f7))) (l7 : K.lookup f7 = some ⟨oc7, od7, .func (PySem.W.fnOf "look_at_web" "look_at_web" (defArgs s_look_at_web) (defBody s_look_at_web) (defScope s_look_at_web) .none kV7 dc7 pm7 an7 cd7 ct7), sl7⟩) (c7 : PySem.W.codeIn K cd7 "look_at_web" = true) (k7 : PySem.W.keepIn K (.ref f7) = true)
    (a8 : PySem.W.nsIn K mainGlobals "is_place" = some (some (.ref f8))) (l8 : K.lookup f8 = some ⟨oc8, od8, .func (PySem.W.fnOf "is_place" "is_place" (defArgs s_is_place) (defBody s_is_place) (defScope s_is_place) .none kV8 dc8 pm8 an8 cd8 ct8), sl8⟩) (c8 : PySem.W.codeIn K cd8 "is_place" = true) (k8 : PySem.W.keepIn K (.ref f8) = true)
    (a9 : PySem.W.nsIn K mainGlobals "is_all_places" = some (some (.ref f9))) (l9 : K.lookup f9 = some ⟨oc9, od9, .func (PySem.W.fnOf "is_all_places" "is_all_places" (defArgs s_is_all_places) (defBody s_is_all_places) (defScope s_is_all_places) .none kV9 dc9 pm9 an9 cd9 ct9), sl9⟩) (c9 : PySem.W.codeIn K cd9 "is_all_places" = true) (k9 : PySem.W.keepIn K (.ref f9) = true)
    (a10 : PySem.W.nsIn K mainGlobals "tie_of" = some (some (.ref f10))) (l10 : K.lookup f10 = some ⟨oc10, od10, .func (PySem.W.fnOf "tie_of" "tie_of" (defArgs s_tie_of) (defBody s_tie_of) (defScope s_tie_of) .none kV10 dc10 pm10 an10 cd10 ct10), sl10⟩) (c10 : PySem.W.codeIn K cd10 "tie_of" = true) (k10 : PySem.W.keepIn K (.ref f10) = true)
    (a11 : PySem.W.nsIn K mainGlobals "renumbered" = some (some (.ref f11))) (l11 : K.lookup f11 = some ⟨oc11, od11, .func (PySem.W.fnOf "renumbered" "renumbered" (defArgs s_renumbered) (defBody s_renumbered) (defScope s_renumbered) .none kV11 dc11 pm11 an11 cd11 ct11), sl11⟩) (c11 : PySem.W.codeIn K cd11 "renumbered" = true) (k11 : PySem.W.keepIn K (.ref f11) = true)
    (a12 : PySem.W.nsIn K mainGlobals "_law_renumbered" = some (some (.ref f12))) (l12 : K.lookup f12 = some ⟨oc12, od12, .func (PySem.W.fnOf "_law_renumbered" "_law_renumbered" (defArgs s_law_renumbered) (defBody s_law_renumbered) (defScope s_law_renumbered) .none kV12 dc12 pm12 an12 cd12 ct12), sl12⟩) (c12 : PySem.W.codeIn K cd12 "_law_renumbered" = true) (k12 : PySem.W.keepIn K (.ref f12) = true)
    (a13 : PySem.W.nsIn K mainGlobals "ties_by" = some (some (.ref f13))) (l13 : K.lookup f13 = some ⟨oc13, od13, .func (PySem.W.fnOf "ties_by" "ties_by" (defArgs s_ties_by) (defBody s_ties_by) (defScope s_ties_by) .none kV13 dc13 pm13 an13 cd13 ct13), sl13⟩) (c13 : PySem.W.codeIn K cd13 "ties_by" = true) (k13 : PySem.W.keepIn K (.ref f13) = true)
    (a14 : PySem.W.nsIn K mainGlobals "is_naming_in" = some (some (.ref f14))) (l14 : K.lookup f14 = some ⟨oc14, od14, .func (PySem.W.fnOf "is_naming_in" "is_naming_in" (defArgs s_is_naming_in) (defBody s_is_naming_in) (defScope s_is_naming_in) .none kV14 dc14 pm14 an14 cd14 ct14), sl14⟩) (c14 : PySem.W.codeIn K cd14 "is_naming_in" = true) (k14 : PySem.W.keepIn K (.ref f14) = true)
    (a15 : PySem.W.nsIn K mainGlobals "lets_naming" = some (some (.ref f15))) (l15 : K.lookup f15 = some ⟨oc15, od15, .func (PySem.W.fnOf "lets_naming" "lets_naming" (defArgs s_lets_naming) (defBody s_lets_naming) (defScope s_lets_naming) .none kV15 dc15 pm15 an15 cd15 ct15), sl15⟩) (c15 : PySem.W.codeIn K cd15 "lets_naming" = true) (k15 : PySem.W.keepIn K (.ref f15) = true)
    (a16 : PySem.W.nsIn K mainGlobals "turned_back" = some (some (.ref f16))) (l16 : K.lookup f16 = some ⟨oc16, od16, .func (PySem.W.fnOf "turned_back" "turned_back" (defArgs s_turned_back) (defBody s_turned_back) (defScope s_turned_back) .none kV16 dc16 pm16 an16 cd16 ct16), sl16⟩) (c16 : PySem.W.codeIn K cd16 "turned_back" = true) (k16 : PySem.W.keepIn K (.ref f16) = true)
    (a17 : PySem.W.nsIn K mainGlobals "behind" = some (some (.ref f17))) (l17 : K.lookup f17 = some ⟨oc17, od17, .func (PySem.W.fnOf "behind" "behind" (defArgs s_behind) (defBody s_behind) (defScope s_behind) .none kV17 dc17 pm17 an17 cd17 ct17), sl17⟩) (c17 : PySem.W.codeIn K cd17 "behind" = true) (k17 : PySem.W.keepIn K (.ref f17) = true)
    (a18 : PySem.W.nsIn K mainGlobals "_law_right" = some (some (.ref f18))) (l18 : K.lookup f18 = some ⟨oc18, od18, .func (PySem.W.fnOf "_law_right" "_law_right" (defArgs s_law_right) (defBody s_law_right) (defScope s_law_right) .none kV18 dc18 pm18 an18 cd18 ct18), sl18⟩) (c18 : PySem.W.codeIn K cd18 "_law_right" = true) (k18 : PySem.W.keepIn K (.ref f18) = true)
    (a19 : PySem.W.nsIn K mainGlobals "_law_pool" = some (some (.ref f19))) (l19 : K.lookup f19 = some ⟨oc19, od19, .func (PySem.W.fnOf "_law_pool" "_law_pool" (defArgs s_bpool) (defBody s_bpool) (defScope s_bpool) .none kV19 dc19 pm19 an19 cd19 ct19), sl19⟩) (c19 : PySem.W.codeIn K cd19 "_law_pool" = true) (k19 : PySem.W.keepIn K (.ref f19) = true)
    (a20 : PySem.W.nsIn K mainGlobals "law" = some (some (.ref f20))) (l20 : K.lookup f20 = some ⟨oc20, od20, .func (PySem.W.fnOf "law" "law" (defArgs s_law) (defBody s_law) (defScope s_law) .none kV20 dc20 pm20 an20 cd20 ct20), sl20⟩) (c20 : PySem.W.codeIn K cd20 "law" = true) (k20 : PySem.W.keepIn K (.ref f20) = true)
    (z_list : PySem.W.nsIn K mainGlobals "list" = some none)
    (z_range : PySem.W.nsIn K mainGlobals "range" = some none)
    (z_len : PySem.W.nsIn K mainGlobals "len" = some none)
    (z_max : PySem.W.nsIn K mainGlobals "max" = some none)
    (z_min : PySem.W.nsIn K mainGlobals "min" = some none)
    (z_sorted : PySem.W.nsIn K mainGlobals "sorted" = some none)
    (z_int : PySem.W.nsIn K mainGlobals "int" = some none)
    (z_isinstance : PySem.W.nsIn K mainGlobals "isinstance" = some none)
    (z_bool : PySem.W.nsIn K mainGlobals "bool" = some none)
    (z_tuple : PySem.W.nsIn K mainGlobals "tuple" = some none)
    (z_enumerate : PySem.W.nsIn K mainGlobals "enumerate" = some none)
    (z_all : PySem.W.nsIn K mainGlobals "all" = some none)
    (z_set : PySem.W.nsIn K mainGlobals "set" = some none)
    (z_dict : PySem.W.nsIn K mainGlobals "dict" = some none)
    (z_repr : PySem.W.nsIn K mainGlobals "repr" = some none)
    (y_MOST_PLACES : PySem.W.nsIn K mainGlobals "MOST_PLACES" = some (some (.int 40 tg_MOST_PLACES)))
    (y_MOST_TIES : PySem.W.nsIn K mainGlobals "MOST_TIES" = some (some (.int 120 tg_MOST_TIES)))
    : ∃ fd : FuncData, (∀ (s : Shared) (v : Value), BindsTo s fd ⟨[v], []⟩ [("_law_script", v)]) ∧ ∀ base : Heap, K.In base → base.Ns mainGlobals mg → FnG l.prog w K mg base CX0 8 fa fd ["_law_script"] (sp_law K) := by
  have e := hfa.symm.trans (PySem.W.mg_of X G a20)
  cases e
  have B : Blt mg := ⟨PySem.W.mg_none_of X G z_list, PySem.W.mg_none_of X G z_range, PySem.W.mg_none_of X G z_len, PySem.W.mg_none_of X G z_max, PySem.W.mg_none_of X G z_min, PySem.W.mg_none_of X G z_sorted, PySem.W.mg_none_of X G z_int, PySem.W.mg_none_of X G z_isinstance, PySem.W.mg_none_of X G z_bool, PySem.W.mg_none_of X G z_tuple, PySem.W.mg_none_of X G z_enumerate, PySem.W.mg_none_of X G z_all, PySem.W.mg_none_of X G z_set, PySem.W.mg_none_of X G z_dict, PySem.W.mg_none_of X G z_repr, ⟨_, PySem.W.mg_of X G y_MOST_PLACES⟩, ⟨_, PySem.W.mg_of X G y_MOST_TIES⟩⟩
  have F0 := fun_mk (st := s_btake) l0 c0 k0
  have F1 := fun_mk (st := s_bweb) l1 c1 k1
  have F2 := fun_mk (st := s_bloose) l2 c2 k2
  have F3 := fun_mk (st := s_bshuf) l3 c3 k3
  have F4 := fun_mk (st := s_is_whole) l4 c4 k4
  have F5 := fun_mk (st := s_is_within) l5 c5 k5
  have F6 := fun_mk (st := s_is_tie) l6 c6 k6
  have F7 := fun_mk (st := s_look_at_web) l7 c7 k7
  have F8 := fun_mk (st := s_is_place) l8 c8 k8
  have F9 := fun_mk (st := s_is_all_places) l9 c9 k9
  have F10 := fun_mk (st := s_tie_of) l10 c10 k10
  have F11 := fun_mk (st := s_renumbered) l11 c11 k11
  have F12 := fun_mk (st := s_law_renumbered) l12 c12 k12
  have F13 := fun_mk (st := s_ties_by) l13 c13 k13
  have F14 := fun_mk (st := s_is_naming_in) l14 c14 k14
  have F15 := fun_mk (st := s_lets_naming) l15 c15 k15
  have F16 := fun_mk (st := s_turned_back) l16 c16 k16
  have F17 := fun_mk (st := s_behind) l17 c17 k17
  have F18 := fun_mk (st := s_law_right) l18 c18 k18
  have F19 := fun_mk (st := s_bpool) l19 c19 k19
  have F20 := fun_mk (st := s_law) l20 c20 k20
  refine ⟨PySem.W.fnOf "law" "law" (defArgs s_law) (defBody s_law) (defScope s_law) .none kV20 dc20 pm20 an20 cd20 ct20, fun s v => .of_eq rfl, fun base _ _ => ?_⟩
  have G0 : FnG l.prog w K mg base CX0 1 f0 _ ["_law_pool_here", "_law_many"] (sp_btake K) := ok_btake F0 B 
  have C0 : Cal l.prog w K mg base 1 "_law_take" ["_law_pool_here", "_law_many"] (sp_btake K) := ⟨_, _, G0, PySem.W.mg_of X G a0, F0.kp, F0.binds (ps := ["_law_pool_here", "_law_many"]) fun _ _ _ _ _ _ us hl => match us, hl with | [_, _], _ => rfl⟩
  have G1 : FnG l.prog w K mg base CX0 2 f1 _ ["_law_pool_here", "_law_most", "_law_more"] (sp_bweb K) := ok_bweb F1 B C0
  have C1 : Cal l.prog w K mg base 2 "_law_web" ["_law_pool_here", "_law_most", "_law_more"] (sp_bweb K) := ⟨_, _, G1, PySem.W.mg_of X G a1, F1.kp, F1.binds (ps := ["_law_pool_here", "_law_most", "_law_more"]) fun _ _ _ _ _ _ us hl => match us, hl with | [_, _, _], _ => rfl⟩
  have G2 : FnG l.prog w K mg base CX0 3 f2 _ ["_law_pool_here", "_law_most", "_law_more"] (sp_bloose K) := ok_bloose F2 B C1 C0
  have C2 : Cal l.prog w K mg base 3 "_law_loose" ["_law_pool_here", "_law_most", "_law_more"] (sp_bloose K) := ⟨_, _, G2, PySem.W.mg_of X G a2, F2.kp, F2.binds (ps := ["_law_pool_here", "_law_most", "_law_more"]) fun _ _ _ _ _ _ us hl => match us, hl with | [_, _, _], _ => rfl⟩
  have G3 : FnG l.prog w K mg base CX0 2 f3 _ ["_law_pool_here", "_law_many"] (sp_bshuf K) := ok_bshuf F3 B C0
  have C3 : Cal l.prog w K mg base 2 "_law_shuffled" ["_law_pool_here", "_law_many"] (sp_bshuf K) := ⟨_, _, G3, PySem.W.mg_of X G a3, F3.kp, F3.binds (ps := ["_law_pool_here", "_law_many"]) fun _ _ _ _ _ _ us hl => match us, hl with | [_, _], _ => rfl⟩
  have G4 : FnG l.prog w K mg base CX0 1 f4 _ ["thing"] (sp_is_whole K) := ok_is_whole F4 B 
  have C4 : Cal l.prog w K mg base 1 "is_whole" ["thing"] (sp_is_whole K) := ⟨_, _, G4, PySem.W.mg_of X G a4, F4.kp, F4.binds (ps := ["thing"]) fun _ _ _ _ _ _ us hl => match us, hl with | [_], _ => rfl⟩
  have G5 : FnG l.prog w K mg base CX0 2 f5 _ ["thing", "least", "most"] (sp_is_within K) := ok_is_within F5 B C4
  have C5 : Cal l.prog w K mg base 2 "is_within" ["thing", "least", "most"] (sp_is_within K) := ⟨_, _, G5, PySem.W.mg_of X G a5, F5.kp, F5.binds (ps := ["thing", "least", "most"]) fun _ _ _ _ _ _ us hl => match us, hl with | [_, _, _], _ => rfl⟩
  have G6 : FnG l.prog w K mg base CX0 3 f6 _ ["many", "thing"] (sp_is_tie K) := ok_is_tie F6 B C5
  have C6 : Cal l.prog w K mg base 3 "is_tie" ["many", "thing"] (sp_is_tie K) := ⟨_, _, G6, PySem.W.mg_of X G a6, F6.kp, F6.binds (ps := ["many", "thing"]) fun _ _ _ _ _ _ us hl => match us, hl with | [_, _], _ => rfl⟩
  have G7 : FnG l.prog w K mg base CX0 4 f7 _ ["thing"] (sp_look_at_web K) := ok_look_at_web F7 B C5 C6
  have C7 : Cal l.prog w K mg base 4 "look_at_web" ["thing"] (sp_look_at_web K) := ⟨_, _, G7, PySem.W.mg_of X G a7, F7.kp, F7.binds (ps := ["thing"]) fun _ _ _ _ _ _ us hl => match us, hl with | [_], _ => rfl⟩
  have G8 : FnG l.prog w K mg base CX0 3 f8 _ ["web", "thing"] (sp_is_place K) := ok_is_place F8 B C5
  have C8 : Cal l.prog w K mg base 3 "is_place" ["web", "thing"] (sp_is_place K) := ⟨_, _, G8, PySem.W.mg_of X G a8, F8.kp, F8.binds (ps := ["web", "thing"]) fun _ _ _ _ _ _ us hl => match us, hl with | [_, _], _ => rfl⟩
  have G9 : FnG l.prog w K mg base CX0 4 f9 _ ["web", "thing"] (sp_is_all_places K) := ok_is_all_places F9 B C8
  have C9 : Cal l.prog w K mg base 4 "is_all_places" ["web", "thing"] (sp_is_all_places K) := ⟨_, _, G9, PySem.W.mg_of X G a9, F9.kp, F9.binds (ps := ["web", "thing"]) fun _ _ _ _ _ _ us hl => match us, hl with | [_, _], _ => rfl⟩
  have G10 : FnG l.prog w K mg base CX0 1 f10 _ ["one", "other"] (sp_tie_of K) := ok_tie_of F10 B 
  have C10 : Cal l.prog w K mg base 1 "tie_of" ["one", "other"] (sp_tie_of K) := ⟨_, _, G10, PySem.W.mg_of X G a10, F10.kp, F10.binds (ps := ["one", "other"]) fun _ _ _ _ _ _ us hl => match us, hl with | [_, _], _ => rfl⟩
  have G11 : FnG l.prog w K mg base CX0 5 f11 _ ["web", "numbers"] (sp_renumbered K) := ok_renumbered F11 B C7 C9 C10
  have C11 : Cal l.prog w K mg base 5 "renumbered" ["web", "numbers"] (sp_renumbered K) := ⟨_, _, G11, PySem.W.mg_of X G a11, F11.kp, F11.binds (ps := ["web", "numbers"]) fun _ _ _ _ _ _ us hl => match us, hl with | [_, _], _ => rfl⟩
  have G12 : FnG l.prog w K mg base CX0 1 f12 _ ["_law_web_here", "_law_order"] (sp_law_renumbered K) := ok_law_renumbered F12 B 
  have C12 : Cal l.prog w K mg base 1 "_law_renumbered" ["_law_web_here", "_law_order"] (sp_law_renumbered K) := ⟨_, _, G12, PySem.W.mg_of X G a12, F12.kp, F12.binds (ps := ["_law_web_here", "_law_order"]) fun _ _ _ _ _ _ us hl => match us, hl with | [_, _], _ => rfl⟩
  have G13 : FnG l.prog w K mg base CX0 1 f13 _ ["web"] (sp_ties_by K) := ok_ties_by F13 B 
  have C13 : Cal l.prog w K mg base 1 "ties_by" ["web"] (sp_ties_by K) := ⟨_, _, G13, PySem.W.mg_of X G a13, F13.kp, F13.binds (ps := ["web"]) fun _ _ _ _ _ _ us hl => match us, hl with | [_], _ => rfl⟩
  have G14 : FnG l.prog w K mg base CX0 5 f14 _ ["one", "other", "thing"] (sp_is_naming_in K) := ok_is_naming_in F14 B C9 C13 C10
  have C14 : Cal l.prog w K mg base 5 "is_naming_in" ["one", "other", "thing"] (sp_is_naming_in K) := ⟨_, _, G14, PySem.W.mg_of X G a14, F14.kp, F14.binds (ps := ["one", "other", "thing"]) fun _ _ _ _ _ _ us hl => match us, hl with | [_, _, _], _ => rfl⟩
  have G15 : FnG l.prog w K mg base CX0 6 f15 _ ["one", "other", "thing"] (sp_lets_naming K) := ok_lets_naming F15 B C7 C14
  have C15 : Cal l.prog w K mg base 6 "lets_naming" ["one", "other", "thing"] (sp_lets_naming K) := ⟨_, _, G15, PySem.W.mg_of X G a15, F15.kp, F15.binds (ps := ["one", "other", "thing"]) fun _ _ _ _ _ _ us hl => match us, hl with | [_, _, _], _ => rfl⟩
  have Kb_kw_lets_naming_2_thing : CalK l.prog w K mg base 6 "lets_naming" ["one", "other", "thing"] ["thing"] (fun vs zs => match vs, zs with | [a0, a1], [k0] => [a0, a1, k0] | _, _ => []) (sp_lets_naming K) := ⟨_, _, _, G15, PySem.W.mg_of X G a15, F15.kp, kb_kw_lets_naming_2_thing F15⟩
  have G16 : FnG l.prog w K mg base CX0 1 f16 _ ["naming"] (sp_turned_back K) := ok_turned_back F16 B 
  have C16 : Cal l.prog w K mg base 1 "turned_back" ["naming"] (sp_turned_back K) := ⟨_, _, G16, PySem.W.mg_of X G a16, F16.kp, F16.binds (ps := ["naming"]) fun _ _ _ _ _ _ us hl => match us, hl with | [_], _ => rfl⟩
  have G17 : FnG l.prog w K mg base CX0 1 f17 _ ["first", "second"] (sp_behind K) := ok_behind F17 B 
  have C17 : Cal l.prog w K mg base 1 "behind" ["first", "second"] (sp_behind K) := ⟨_, _, G17, PySem.W.mg_of X G a17, F17.kp, F17.binds (ps := ["first", "second"]) fun _ _ _ _ _ _ us hl => match us, hl with | [_, _], _ => rfl⟩
  have G18 : FnG l.prog w K mg base CX0 7 f18 _ ["_law_pool_here"] (sp_law_right K) := ok_law_right F18 B C2 C0 C3 C11 C12 C15 C16 C17 Kb_kw_lets_naming_2_thing
  have C18 : Cal l.prog w K mg base 7 "_law_right" ["_law_pool_here"] (sp_law_right K) := ⟨_, _, G18, PySem.W.mg_of X G a18, F18.kp, F18.binds (ps := ["_law_pool_here"]) fun _ _ _ _ _ _ us hl => match us, hl with | [_], _ => rfl⟩
  have G19 : FnG l.prog w K mg base CX0 1 f19 _ ["_law_script", "_law_k"] (sp_bpool K) := ok_bpool F19 B 
  have C19 : Cal l.prog w K mg base 1 "_law_pool" ["_law_script", "_law_k"] (sp_bpool K) := ⟨_, _, G19, PySem.W.mg_of X G a19, F19.kp, F19.binds (ps := ["_law_script", "_law_k"]) fun _ _ _ _ _ _ us hl => match us, hl with | [_, _], _ => rfl⟩
  have G20 : FnG l.prog w K mg base CX0 8 fa _ ["_law_script"] (sp_law K) := ok_law F20 B C18 C19
  exact G20
end G39.Lw
open PySem PySem.W PyProof.Rows
set_option maxHeartbeats 0 in
theorem PySem.Challenge.cw_webtimes_k40_namings_turned_holds : PySem.Challenge.rw_webtimes_k40_namings_turned.Holds := by
  w_on; o_law; k_head; (case hw => w_witness2)
  k_fill
  refine G39.walkG (l := PySem.Challenge.rw_webtimes_k40_namings_turned) (n := 63) (k := 8) (x := "_law_script") (sp := fun w => G39.sp_law _) rfl (by decide) rfl ⟨rfl, by decide, by decide⟩ (fun w h Y => PySem.W.kIn_of Y) ?F (fun _ _ a ns hl _ hS => ⟨a, ns, rfl, hS, hl, fun _ => rfl⟩)
  case F =>
    intro w mg fa h KX G hmg
    refine' G39.Lw.all_mk KX G hmg ?a0 ?l0 ?c0 ?k0 ?a1 ?l1 ?c1 ?k1 ?a2 ?l2 ?c2 ?k2 ?a3 ?l3 ?c3 ?k3 ?a4 ?l4 ?c4 ?k4 ?a5 ?l5 ?c5 ?k5 ?a6 ?l6 ?c6 ?k6 ?a7 ?l7 ?c7 ?k7 ?a8 ?l8 ?c8 ?k8 ?a9 ?l9 ?c9 ?k9 ?a10 ?l10 ?c10 ?k10 ?a11 ?l11 ?c11 ?k11 ?a12 ?l12 ?c12 ?k12 ?a13 ?l13 ?c13 ?k13 ?a14 ?l14 ?c14 ?k14 ?a15 ?l15 ?c15 ?k15 ?a16 ?l16 ?c16 ?k16 ?a17 ?l17 ?c17 ?k17 ?a18 ?l18 ?c18 ?k18 ?a19 ?l19 ?c19 ?k19 ?a20 ?l20 ?c20 ?k20 ?z_list ?z_range ?z_len ?z_max ?z_min ?z_sorted ?z_int ?z_isinstance ?z_bool ?z_tuple ?z_enumerate ?z_all ?z_set ?z_dict ?z_repr ?y_MOST_PLACES ?y_MOST_TIES
    (case a0 => k_is); (case l0 => k_is); (case c0 => k_is); (case k0 => k_is); (case a1 => k_is); (case l1 => k_is); (case c1 => k_is); (case k1 => k_is); (case a2 => k_is); (case l2 => k_is); (case c2 => k_is); (case k2 => k_is); (case a3 => k_is); (case l3 => k_is); (case c3 => k_is); (case k3 => k_is); (case a4 => k_is); (case l4 => k_is); (case c4 => k_is); (case k4 => k_is); (case a5 => k_is); (case l5 => k_is); (case c5 => k_is); (case k5 => k_is); (case a6 => k_is); (case l6 => k_is); (case c6 => k_is); (case k6 => k_is); (case a7 => k_is); (case l7 => k_is); (case c7 => k_is); (case k7 => k_is); (case a8 => k_is); (case l8 => k_is); (case c8 => k_is); (case k8 => k_is); (case a9 => k_is); (case l9 => k_is); (case c9 => k_is); (case k9 => k_is); (case a10 => k_is); (case l10 => k_is); (case c10 => k_is); (case k10 => k_is); (case a11 => k_is); (case l11 => k_is); (case c11 => k_is); (case k11 => k_is); (case a12 => k_is); (case l12 => k_is); (case c12 => k_is); (case k12 => k_is); (case a13 => k_is); (case l13 => k_is); (case c13 => k_is); (case k13 => k_is); (case a14 => k_is); (case l14 => k_is); (case c14 => k_is); (case k14 => k_is); (case a15 => k_is); (case l15 => k_is); (case c15 => k_is); (case k15 => k_is); (case a16 => k_is); (case l16 => k_is); (case c16 => k_is); (case k16 => k_is); (case a17 => k_is); (case l17 => k_is); (case c17 => k_is); (case k17 => k_is); (case a18 => k_is); (case l18 => k_is); (case c18 => k_is); (case k18 => k_is); (case a19 => k_is); (case l19 => k_is); (case c19 => k_is); (case k19 => k_is); (case a20 => k_is); (case l20 => k_is); (case c20 => k_is); (case k20 => k_is); (case z_list => k_is); (case z_range => k_is); (case z_len => k_is); (case z_max => k_is); (case z_min => k_is); (case z_sorted => k_is); (case z_int => k_is); (case z_isinstance => k_is); (case z_bool => k_is); (case z_tuple => k_is); (case z_enumerate => k_is); (case z_all => k_is); (case z_set => k_is); (case z_dict => k_is); (case z_repr => k_is); (case y_MOST_PLACES => k_is); (case y_MOST_TIES => k_is)
