import PyProof.Rows.All
import Wide.All
import OpenK.AllK
import Wide.FinOn
import HandS.ForMost
import HandS.Walk
import HandS.IsInst
import HandS.TupLe
import HandS.TupLen
import HandS.Deep
import HandS.Conv
import HandS.SortRule
import HandS.SortInts
import HandS.Flow
import HandS.More
import HandS.SetFor
import HandS.Strs
import PySem.Challenge.RW_webtimes_k24_corner_links
set_option Elab.async false
set_option linter.all false
set_option maxRecDepth 100000
set_option maxHeartbeats 4000000
/-! The layer of this work: short names of readings, heaps, data. -/
namespace G39
open PySem PySem.Spec PyProof.Rows L2
abbrev rAdd : R2 := rI0 fun i j => .int (i + j)
abbrev rSub : R2 := rI0 fun i j => .int (i - j)
abbrev rMul : R2 := rI CMul fun i j => .int (i * j)
abbrev rMod : R2 := rI (fun _ j => 0 < j) fun i j => .int (i % j)
abbrev rDiv : R2 := rI CDiv fun i j => .int (i / j)
abbrev rPow : R2 := rI CPow fun i j => .int (i ^ j.toNat)
abbrev rLt : R2 := rI0 fun i j => .bl (decide (i < j))
abbrev rLe : R2 := rI0 fun i j => .bl (decide (i ≤ j))
abbrev rGt : R2 := rI0 fun i j => .bl (decide (j < i))
abbrev rGe : R2 := rI0 fun i j => .bl (decide (j ≤ i))
abbrev rNeg : V → Hp → VK → Prop := rU fun i => .int (-i)
abbrev rIsNn : R2 := fun x y H Q => y = .non ∧ Q (.bl (decide (x = .non))) H
abbrev rNotNn : R2 := fun x y H Q => y = .non ∧ Q (.bl (!decide (x = .non))) H
abbrev rIsBb : R2 := fun x y H Q => ∃ a b, x = .bl a ∧ y = .bl b ∧ Q (.bl (decide (a = b))) H
abbrev rNotBb : R2 := fun x y H Q => ∃ a b, x = .bl a ∧ y = .bl b ∧ Q (.bl (!decide (a = b))) H
abbrev rLenSq (K : PySem.W.Frag) : List V → Hp → VK → Prop := fun xs H Q => ∃ p ys, xs = [.ref p] ∧ (SqL K H p ys ∨ SqT K H p ys) ∧ Q (.int ys.length) H
abbrev rLenSt : List V → Hp → VK → Prop := fun xs H Q => ∃ z, xs = [.str z] ∧ z.length ≤ sizeLine ∧ Q (.int z.length) H
abbrev rMin2 : List V → Hp → VK → Prop := fun xs H Q => ∃ i j, xs = [.int i, .int j] ∧ Q (.int (if j < i then j else i)) H
abbrev rMax2 : List V → Hp → VK → Prop := fun xs H Q => ∃ i j, xs = [.int i, .int j] ∧ Q (.int (if j > i then j else i)) H
abbrev rInt1 : List V → Hp → VK → Prop := fun xs H Q => (∃ i, xs = [.int i] ∧ Q (.int i) H) ∨ ∃ k, xs = [.bl k] ∧ Q (.int (if k then 1 else 0)) H
abbrev rStrI : List V → Hp → VK → Prop := fun xs H Q => ∃ i, xs = [.int i] ∧ i.natAbs.log2 < 1920 ∧ Q (.str (toString i)) H
abbrev rListOf (K : PySem.W.Frag) : List V → Hp → VK → Prop := fun xs H Q => ∃ p ys, xs = [.ref p] ∧ (SqL K H p ys ∨ SqT K H p ys) ∧ ∀ l, H l = none → Q (.ref l) (upd H l (.lst ys))
theorem hu65 {A : Around} {k : Nat} (hr : Room k A) : A.units + 65 < cLine := by have := hr.un; omega
/-! ### own defs, bundled: a promise that is kept where no repr is under way -/
structure FnG (P : Program) (w : World) (K : PySem.W.Frag) (mg : Str → Option Value) (base : Heap) (CX : CXT) (k : Nat) (f : Addr) (fd : FuncData) (ps : List Str) (sp : Sp) : Prop where
  len : ∀ vs H Q E, sp vs H Q E → vs.length = ps.length
  run : ∀ (A : Around) (outer : List Env) (s : Shared) (H : Hp) (args : Args) (us : List Value) (vs : List V) (Q : VK) (E : XK), Room k A → A.guards = some [] → Env0 P w K mg base A outer s H → BindsTo s fd args (ps.zip us) → Vals vs us →
    sp vs H Q E → codeAny (model P w) A (.call (.ref f) args) (CR CX outer P w H s Q E) s
theorem FnG.of {P : Program} {w : World} {K : PySem.W.Frag} {mg : Str → Option Value} {base : Heap} {CX : CXT} {k : Nat} {f : Addr} {fd : FuncData} {ps : List Str} {sp : Sp} (F : FnOk P w K mg base CX k f fd ps sp) : FnG P w K mg base CX k f fd ps sp :=
  ⟨F.len, fun A outer s H args us vs Q E hr _ => F.run A outer s H args us vs Q E hr⟩
/-- a def of the text keeps its promise: its body's term and reading, at an entry where no repr is under way -/
theorem okG {P : Program} {w : World} {K : PySem.W.Frag} {mg : Str → Option Value} {base : Heap} {CX : CXT} {x qual : Str} {st : Stmt} {f : Addr} {fd : FuncData} {N ps : List Str} {k : Nat} {sp : Sp} (F : Fun K x qual st f fd) (S : FnScope N ps (defScope st))
    (len : ∀ vs H Q E, sp vs H Q E → vs.length = ps.length)
    (body : ∀ (cdv : Value) (A : Around) (outer : List Env) (s : Shared) (H : Hp) (vs : List V) (Q : VK) (E : XK), Room k (A.deeper (envOfC qual (defScope st) s.heap.objs.size f cdv)) → (A.deeper (envOfC qual (defScope st) s.heap.objs.size f cdv)).guards = some [] → sp vs H Q E →
      ∃ t, PSs (cxOf CX P w K mg base N qual (defScope st) f cdv A outer s H E) (defBody st) t ∧ t { nx := fun _ H' => Q .non H', rt := Q } (L2.start N vs) H) : FnG P w K mg base CX (k + 1) f fd ps sp := by
  obtain ⟨oc, od, kV, doc, pm, an, cdv, ct, osl, rfl, look, code⟩ := F.ex
  refine ⟨len, fun A outer s H args us vs Q E room gd env bind rel hsp => ?_⟩
  have KS : K.In s.heap := env.mod.kin.keeps fun b o q => (env.bs b o q).1
  have NL : s.heap.NoLimit := env.mod.nolimit.keeps fun b o q => (env.bs b o q).1
  have kinds : ∀ y ∈ ps.zip us, (defScope st).names.lookup y.1 = some .local ∨ ((defScope st).names.lookup y.1 = some .cell ∧ ((cellsFrom (s.heap.objs.size + 1) (defScope st).names []).lookup y.1).isSome = true) := by
    rintro ⟨nm, val⟩ hy
    rcases S.par nm (List.of_mem_zip hy).1 with l | c
    · exact .inl l
    · exact .inr ⟨c, PySem.W.cellsFrom_some _ _ _ (.inl c)⟩
  refine codeAny_call_function room.depth (KS _ _ look) rfl S.co S.gen rfl (PySem.W.codeRec_of KS code) (bind _ _ _ _ ?_)
  refine wpAny_newFunctionEnv_cells S.kind kinds fun env' he s1 inside => ?_
  subst he
  refine ⟨NL.keeps inside.toInCall.keep, codeAny_func ?_⟩
  obtain ⟨t, term, reading⟩ := body cdv A outer s H vs Q E (room.deeper _) (by show A.guards = some []; exact gd) hsp
  have J0 : Inv (cxOf CX P w K mg base N qual (defScope st) f cdv A outer s H E) [] (L2.start N vs) H s1 := inv_start S room.hd env (len _ _ _ _ hsp) rel inside
  refine wpAny_mono (term.run [] s1 (L2.start N vs) H _ J0 reading) (fun fl s' done => ?_) fun e s' q => q
  have close : ∀ {σ' : L2.St} {H' : Hp} {v : V} {u : Value}, Inv (cxOf CX P w K mg base N qual (defScope st) f cdv A outer s H E) [] σ' H' s' → RelV v u → Q v H' → CE outer P w H s Q u s' :=
    fun {σ' H' v u} J r q => ⟨v, H', J.os, J.bare, J.base, J.hok, r, q⟩
  cases fl with
  | ret u => let ⟨v, σ', H', J, r, q⟩ := done; exact close J r q
  | next => let ⟨σ', H', J, q⟩ := done; exact close (v := V.non) (u := Value.none) J rfl q
  | brk => let ⟨_, _, _, q⟩ := done; exact q.elim
  | cont => let ⟨_, _, _, q⟩ := done; exact q.elim
structure Cal (P : Program) (w : World) (K : PySem.W.Frag) (mg : Str → Option Value) (base : Heap) (k : Nat) (x : Str) (ps : List Str) (sp : Sp) : Prop where
  ex : ∃ f fd, FnG P w K mg base CX0 k f fd ps sp ∧ mg x = some (.ref f) ∧ PySem.W.keepIn K (.ref f) = true ∧ Binds K fd ps []
structure CalK (P : Program) (w : World) (K : PySem.W.Frag) (mg : Str → Option Value) (base : Heap) (k : Nat) (x : Str) (ps ks : List Str) (gV : List V → List V → List V) (sp : Sp) : Prop where
  ex : ∃ f fd g, FnG P w K mg base CX0 k f fd ps sp ∧ mg x = some (.ref f) ∧ PySem.W.keepIn K (.ref f) = true ∧ KBinds K fd ps ks g gV
section
variable {X : Cx} {k : Nat} {x : Str} {ps ks : List Str} {sp : Sp} {e : Expr} {es : List Expr} {kws : List Keyword} {p pos : Pos} {t tk : TA} {gV : List V → List V → List V} {f : Addr} {fd : FuncData}
/-- a callee that lets nothing out, run -/
theorem runG {pins : List (Addr × Obj)} {σ : L2.St} {H : Hp} {s : Shared} {Q : VK} {args : Args} {us : List Value} {vs : List V} (F : FnG X.prog X.w X.K X.mg X.base CX0 k f fd ps sp) (room : Room k X.A) (gd : X.A.guards = some []) (I : Inv X pins σ H s) (b : BindsTo s fd args (ps.zip us)) (r : Vals vs us) (h : sp vs H Q E0) :
    codeAny (model X.prog X.w) X.A (.call (.ref f) args) (fun r s' => match r with | .ok (.ret u) => EP X pins σ Q u s' | _ => False) s := by
  refine codeAny_mono (F.run X.A X.stack s H args us vs Q E0 room gd I.env0 b r h) fun r s' q => ?_
  match r, q with
  | .ok (.ret u), q => exact I.after q
theorem pe_own (C : Cal X.prog X.w X.K X.mg X.base k x ps sp) (hr : Room k X.A) (gd : X.A.guards = some []) (hg : Gl X x) (ha : PA X (e :: es) t) (hdb : (x == ("__debug__" : Str)) = false := by decide)
    (he : starEach (e :: es) X.env = (false, eval e X.env) :: starEach es X.env := by rfl) (hpl : (backTo pos (starEach es X.env)).any (·.1) = false := by rfl) : PE X (.Call (.Name x p) (e :: es) [] pos) (tCall sp [] E0 t) := by
  obtain ⟨f, fd, F, hm, hk, hb⟩ := C.ex
  refine ⟨fun pins s σ H Q I h => wpAny_Call_Name_kw (ld_glob I hg hm ?_ hdb)⟩
  refine PySem.W.callWith_K (h₀ := X.base) I.ok.mod.kin hk (thn (ha.run pos pins s σ H _ I h) fun us s1 ⟨vs, H1, I1, r, q⟩ => ⟨I1.kIn, ?_⟩) he hpl
  have q : sp (vs ++ []) H1 Q E0 := q
  rw [List.append_nil] at q
  have hl : (us ++ []).length = ps.length := by
    rw [List.append_nil, ← r.length]
    exact F.len _ _ _ _ q
  have bt := hb s1 us I1.kIn hl
  rw [List.append_nil] at bt
  refine wpAny_call (codeAny_mono (runG F hr gd I1 bt r q) fun res s' hq => ?_)
  match res, hq with
  | .ok (.ret u), hq => exact hq
theorem pe_own0 (C : Cal X.prog X.w X.K X.mg X.base k x ps sp) (hr : Room k X.A) (gd : X.A.guards = some []) (hg : Gl X x) (hdb : (x == ("__debug__" : Str)) = false := by decide) : PE X (.Call (.Name x p) [] [] pos) (tCall sp [] E0 tNil) := by
  obtain ⟨f, fd, F, hm, hk, hb⟩ := C.ex
  refine ⟨fun pins s σ H Q I h => wpAny_Call_Name_kw (ld_glob I hg hm ?_ hdb)⟩
  have q : sp [] H Q E0 := h
  have bt := hb s [] I.kIn (F.len _ _ _ _ q)
  refine PySem.W.callWith_K0 I.kIn hk (wpAny_call (codeAny_mono (runG F hr gd I bt .nil q) fun res s' hq => ?_))
  match res, hq with
  | .ok (.ret u), hq => exact hq
theorem pe_ownK (C : CalK X.prog X.w X.K X.mg X.base k x ps ks gV sp) (hr : Room k X.A) (gd : X.A.guards = some []) (hg : Gl X x) (ha : PA X (e :: es) t) (hkw : PK X kws tk) (hall : (backToKw pos (keywordEach kws X.env)).all (·.1.isSome) = true := by rfl) (hks : (backToKw pos (keywordEach kws X.env)).filterMap (·.1) = ks := by rfl)
    (hdb : (x == ("__debug__" : Str)) = false := by decide) (he : starEach (e :: es) X.env = (false, eval e X.env) :: starEach es X.env := by rfl)
    (hpl : ((backTo pos (starEach (e :: es) X.env)).any (·.1) || (backToKw pos (keywordEach kws X.env)).any (·.1.isNone)) = false := by rfl) : PE X (.Call (.Name x p) (e :: es) kws pos) (tCallK sp gV E0 t tk) := by
  obtain ⟨f, fd, g, F, hm, hk, hb⟩ := C.ex
  refine ⟨fun pins s σ H Q I h => wpAny_Call_Name_kw (ld_glob I hg hm ?_ hdb)⟩
  refine PySem.W.callWith_KW (h₀ := X.base) I.ok.mod.kin hk hall (thn (ha.run pos pins s σ H _ I h) fun us s1 ⟨vs, H1, I1, r, q⟩ => ?_) hpl he
  refine thn (hkw.run pos pins s1 σ H1 _ I1 q) fun ws s2 ⟨zs, H2, I2, rz, q2⟩ => ⟨I2.kIn, ?_⟩
  rw [hks]
  have r2 := hb.rel r rz
  have hl : (g us ws).length = ps.length := by
    rw [← r2.length]
    exact F.len _ _ _ _ q2
  refine wpAny_call (codeAny_mono (runG F hr gd I2 (hb.to s2 us ws I2.kIn hl) r2 q2) fun res s' hq => ?_)
  match res, hq with
  | .ok (.ret u), hq => exact hq
end
/-! ### the end of a law row over such a promise -/
section
open PyProof.Rows
theorem lawG {P : Program} {w : World} {K : PySem.W.Frag} {mg mb : Str → Option Value} {k : Nat} {fa a : Addr} {fd : FuncData} {x : Str} {sp : Sp} {s1 : Shared} {us : List Value} {ns : List Int}
    (KX : K.In s1.heap) (glob : s1.heap.Ns mainGlobals mg) (blt : s1.heap.Ns builtinsNs mb) (boot : ∀ x : Str, x ≠ "__name__" → mb x = bootBuiltins x) (lim : s1.heap.NoLimit) (gens : s1.gens = #[])
    (ha : s1.heap.get? a = some { cls := .type "list", data := .seq us.toArray }) (areInts : IntsAre us ns) (few : ns.length ≤ sizeLine) (room : Room k callerA)
    (F : ∀ base : Heap, K.In base → base.Ns mainGlobals mg → FnG P w K mg base CX0 k fa fd [x] sp) (bind : ∀ (s : Shared) (u : Value), BindsTo s fd ⟨[u], []⟩ [(x, u)])
    (promise : ∀ H : Hp, Only H → SqL K H a (ns.map V.int) → sp [.ref a] H (fun v _ => v = .bl true) fun _ _ _ => False) :
    codeAny (model P w) callerA (.call (.ref fa) ⟨[.ref a], []⟩) (fun r s' => r = .ok (.ret (.bool true)) ∧ OldK s1.heap s'.heap ∧ s'.os = s1.os ∧ AllBare s'.gens) s1 := by
  have rv := vals_ints areInts
  -- the abstract heap tracks the script alone, or nothing
  have main : ∀ H : Hp, Only H → SqL K H a (ns.map V.int) → HOk P w H s1.heap → (∀ b, H b ≠ none → b = a ∧ K.lookup a = none) →
      codeAny (model P w) callerA (.call (.ref fa) ⟨[.ref a], []⟩) (fun r s' => r = .ok (.ret (.bool true)) ∧ OldK s1.heap s'.heap ∧ s'.os = s1.os ∧ AllBare s'.gens) s1 := by
    intro H only sq hok at_a
    have noDict : ∀ {b : Addr} {o : Obj} {es : Array DictEntry} {ep : Nat}, s1.heap.get? b = some o → o.data = .dict es ep → H b = none := by
      intro b o es ep e d
      rcases hb : H b with _ | u
      · rfl
      · have q := (at_a b (by rw [hb]; exact Option.some_ne_none u)).1
        subst q
        have e2 := ha.symm.trans e
        cases e2
        cases (show Data.seq us.toArray _ = Data.dict es ep from d)
    have ns' : ∀ {b : Addr} {m : Str → Option Value}, s1.heap.Ns b m → (hidT s1.heap H).Ns b m := by
      rintro b m ⟨o, es, ep, e, d, rest⟩
      exact ⟨o, es, ep, hidT_get e (noDict e d), d, rest⟩
    have KB : K.In (hidT s1.heap H) := fun b o e => hidT_get (KX b o e) (by
      rcases hb : H b with _ | u
      · rfl
      · obtain ⟨q, nk⟩ := at_a b (by rw [hb]; exact Option.some_ne_none u)
        rw [q, nk] at e
        cases e)
    have M : Mod K mg (hidT s1.heap H) := ⟨KB, ns' glob, ⟨mb, ns' blt, boot⟩, let ⟨mc, h1, h2⟩ := lim; ⟨mc, ns' h1, h2⟩⟩
    have env : Env0 P w K mg (hidT s1.heap H) callerA [] s1 H := ⟨rfl, M, fun b o e => of_hidT e, Nat.le_of_eq (hidT_size _ _), trivial, fun b hb => (List.not_mem_nil hb).elim, hok, .of_eq gens⟩
    refine codeAny_mono ((F _ KB (ns' glob)).run callerA [] s1 H ⟨[.ref a], []⟩ [.ref a] [.ref a] _ _ room rfl env (bind s1 (.ref a)) (.cons rfl .nil) (promise H only sq)) fun r s' out => ?_
    match r, out with
    | .ok (.ret u), ⟨v, H', os, bare, un, hok', rel, q⟩ =>
      have q2 : v = .bl true := q
      subst q2
      obtain rfl : u = Value.bool true := rel
      refine ⟨rfl, OldK.of_keep fun b o e => ?_, os, bare⟩
      rcases only b with z | ⟨ob, ys, z⟩
      · exact un.keep b o e z (fun y => (List.not_mem_nil y).elim) (by simp)
      · have z2 := un.frzs b ob _ z
        have k1 := (hok b _ z).1
        rw [e] at k1
        cases k1
        exact (hok' b _ z2).1
  rcases hk : K.lookup a with _ | o
  · refine main (fun b => if b = a then some (.frz { cls := .type "list", data := .seq us.toArray } (.lst (ns.map V.int))) else none) (fun b => ?_) (.inl (.inr ⟨{ cls := .type "list", data := .seq us.toArray }, if_pos rfl⟩)) (fun b u z => ?_) (fun b z => ?_)
    · by_cases hb : b = a
      · exact .inr ⟨_, _, if_pos hb⟩
      · exact .inl (if_neg hb)
    · by_cases hb : b = a
      · cases (if_pos hb).symm.trans z
        subst hb
        exact ⟨ha, by rw [List.length_map]; exact few, us, _, rv, ha⟩
      · cases (if_neg hb).symm.trans z
    · by_cases hb : b = a
      · exact ⟨hb, hk⟩
      · exact absurd (if_neg hb) z
  · have e := (KX a o hk).symm.trans ha
    cases e
    refine main (fun _ => none) (fun _ => .inl rfl) (.inr ⟨_, us.toArray, _, hk, rfl, rfl, rfl, by rw [List.size_toArray, areInts.length]; exact few, by simpa using rv⟩) (fun b u z => by cases (show (none : Option HO) = some u from z)) (fun b z => absurd rfl z)
theorem walkG {l : PySem.W.OpenLaw} {n k : Nat} {q : Program} {loose : List Str} {XP : (Str → Option Value) → Heap → Prop} {YP : World → Heap → Prop} {d : DefRec} {K : Params → PySem.W.Frag} {sp : World → Sp} {x : Str}
    (hn : l.most = some n) (hn2 : n ≤ sizeLine) (hdf : d.params.defaults = []) (hr : Room k callerA) (hY : ∀ (w : World) (h : Heap), YP w h → (K w.params).In h)
    (F : ∀ (w : World) (mg : Str → Option Value) (fa : Addr) (h : Heap), (K w.params).In h → h.Ns mainGlobals mg → mg d.name = some (.ref fa) →
      ∃ fd : FuncData, (∀ (s : Shared) (u : Value), BindsTo s fd ⟨[u], []⟩ [(x, u)]) ∧ ∀ base : Heap, (K w.params).In base → base.Ns mainGlobals mg → FnG l.prog w (K w.params) mg base CX0 k fa fd [x] (sp w))
    (hsp : ∀ (w : World) (H : Hp) (a : Addr) (ns : List Int), ns.length ≤ n → Only H → SqL (K w.params) H a (ns.map V.int) → sp w [.ref a] H (fun v _ => v = .bl true) fun _ _ _ => False) :
    PySem.W.WalkO q loose XP YP l.row.toRowW d [] (fun f vs => PySem.call f vs) := by
  refine Att.attach_call hn hdf fun w s0 s1 mg mb fa o pm cd doc a us ns G Y ho hd hcd hmg hobj hints hlen hg => ?_
  have KX := hY w _ Y
  obtain ⟨fd, hb, hF⟩ := F w mg fa _ KX G.T.g hmg
  exact lawG KX G.T.g G.T.b G.T.builtins G.T.nolimit hg hobj hints (Nat.le_trans hlen hn2) hr hF hb fun H only sq => hsp w H a ns hlen only sq
end
/-! ### heaps -/
theorem same_new {H : Hp} {p : Addr} {o : HO} (h : H p = none) : Same H (upd H p o) := fun b x e => by
  rw [upd_ne (ne_of_none e h)]
  exact e
/-- what is new in H1 may change: nothing of H does -/
theorem same_mut {H H1 : Hp} {p : Addr} {o : HO} (e : Same H H1) (h : H p = none) : Same H (upd H1 p o) := fun b x q => by
  rw [upd_ne (ne_of_none q h)]
  exact e b x q
theorem alloc {H : Hp} {o : HO} {Q : VK} (h : ∀ p H', H p = none → Same H H' → H' p = some o → Q (.ref p) H') : ∀ p, H p = none → Q (.ref p) (upd H p o) :=
  fun p np => h p _ np (same_new np) upd_same
theorem sqt {K : PySem.W.Frag} {H : Hp} {a : Addr} {xs : List V} (h : H a = some (.tup xs)) : SqT K H a xs := .inl (.inl h)
theorem sql {K : PySem.W.Frag} {H : Hp} {a : Addr} {xs : List V} (h : H a = some (.lst xs)) : SqL K H a xs := .inl (.inl h)
theorem ty_tup {K : PySem.W.Frag} {H : Hp} {a : Addr} {xs : List V} (h : H a = some (.tup xs)) : TyX K H (.ref a) (.type "tuple") := .base (.tup h)
theorem ty_lst {K : PySem.W.Frag} {H : Hp} {a : Addr} {xs : List V} (h : H a = some (.lst xs)) : TyX K H (.ref a) (.type "list") := .base (.lst h)
theorem ty_int {K : PySem.W.Frag} {H : Hp} (i : Int) : TyX K H (.int i) (.type "int") := .base (.int i)
theorem ty_bl {K : PySem.W.Frag} {H : Hp} (i : Bool) : TyX K H (.bl i) (.type "bool") := .base (.bl i)
theorem k_ii {K : PySem.W.Frag} : PySem.W.kitOne K (.type "int") (.type "int") = some true := kit_ty (by decide +kernel)
theorem k_ib {K : PySem.W.Frag} : PySem.W.kitOne K (.type "int") (.type "bool") = some false := kit_ty (by decide +kernel)
theorem k_bb {K : PySem.W.Frag} : PySem.W.kitOne K (.type "bool") (.type "bool") = some true := kit_ty (by decide +kernel)
theorem k_bi {K : PySem.W.Frag} : PySem.W.kitOne K (.type "bool") (.type "int") = some true := kit_ty (by decide +kernel)
theorem k_tt {K : PySem.W.Frag} : PySem.W.kitOne K (.type "tuple") (.type "tuple") = some true := kit_ty (by decide +kernel)
theorem k_ll {K : PySem.W.Frag} : PySem.W.kitOne K (.type "list") (.type "list") = some true := kit_ty (by decide +kernel)
/-! ### data -/
/-- a tie at a value -/
def Pr (H : Hp) (x : V) (t : Int × Int) : Prop := ∃ b, x = .ref b ∧ H b = some (.tup [.int t.1, .int t.2])
/-- a list of ties at an address -/
def IsP (H : Hp) (a : Addr) (ts : List (Int × Int)) : Prop := ∃ xs, H a = some (.lst xs) ∧ Paired (Pr H) xs ts
/-- a web at a value -/
def IsW (H : Hp) (v : V) (n : Int) (ts : List (Int × Int)) : Prop := ∃ p a, v = .ref p ∧ H p = some (.tup [.int n, .ref a]) ∧ IsP H a ts
theorem Pr.mono {H H' : Hp} (e : Same H H') {x : V} {t : Int × Int} (h : Pr H x t) : Pr H' x t := let ⟨b, e1, e2⟩ := h; ⟨b, e1, e _ _ e2⟩
theorem Prs.mono {H H' : Hp} (e : Same H H') {xs : List V} {ts : List (Int × Int)} (h : Paired (Pr H) xs ts) : Paired (Pr H') xs ts := Paired.mapP h fun _ _ => Pr.mono e
theorem IsP.mono {H H' : Hp} (e : Same H H') {a : Addr} {ts : List (Int × Int)} (h : IsP H a ts) : IsP H' a ts := let ⟨xs, e1, e2⟩ := h; ⟨xs, e _ _ e1, Prs.mono e e2⟩
theorem IsW.mono {H H' : Hp} (e : Same H H') {v : V} {n : Int} {ts : List (Int × Int)} (h : IsW H v n ts) : IsW H' v n ts := let ⟨p, a, e1, e2, e3⟩ := h; ⟨p, a, e1, e _ _ e2, e3.mono e⟩
theorem paired_get {α β : Type} {F : α → β → Prop} : ∀ {xs : List α} {ys : List β}, Paired F xs ys → ∀ {i : Nat} {x : α}, xs[i]? = some x → ∃ y, ys[i]? = some y ∧ F x y
  | _, _, .nil, i, x, h => by simp at h
  | _, _, .cons (a := a) (b := b) hd tl, 0, x, h => ⟨_, rfl, by
      have e := Option.some.inj h
      rw [← e]
      exact hd⟩
  | _, _, .cons hd tl, i + 1, x, h => paired_get tl (i := i) h
/-- ties in order -/
def ltT (t u : Int × Int) : Prop := t.1 < u.1 ∨ (t.1 = u.1 ∧ t.2 < u.2)
structure WebOk (n : Int) (ts : List (Int × Int)) : Prop where
  lo : 1 ≤ n
  hi : n ≤ 40
  few : ts.length ≤ 120
  good : ∀ t ∈ ts, 0 ≤ t.1 ∧ t.1 < t.2 ∧ t.2 < n
  ord : ts.Pairwise ltT
/-! ### new objects: the heap behind is a letter -/
/-- whatever new object o is laid into H -/
def Nw (H : Hp) (o : HO) (Q : VK) : Prop := ∀ p H', H p = none → Same H H' → H' p = some o → Q (.ref p) H'
theorem Nw.use {H : Hp} {o : HO} {Q : VK} (h : Nw H o Q) (p : Addr) (np : H p = none) : Q (.ref p) (upd H p o) := h p _ np (same_new np) upd_same
def tTupG (t : TA) : TE := fun σ H Q => t σ H fun xs H1 => xs.length ≤ sizeLine ∧ Nw H1 (.tup xs) Q
def tLstG (t : TA) : TE := fun σ H Q => t σ H fun xs H1 => xs.length ≤ sizeLine ∧ Nw H1 (.lst xs) Q
def tLstRgG (te : L2.St → Hp → (Int → Int → Hp → Prop) → Prop) : TE := fun σ H Q => te σ H fun a b H1 => RgOk a b ∧ Nw H1 (.lst (rgV a b)) Q
def tDNewTG : TE := fun _ H Q => Nw H (.dT []) Q
abbrev rCatG : R2 := fun x y H Q => ∃ l b xs zs, x = .ref l ∧ y = .ref b ∧ H l = some (.lst xs) ∧ H b = some (.lst zs) ∧ xs.length + zs.length ≤ sizeLine ∧ Nw H (.lst (xs ++ zs)) Q
abbrev rRepG : R2 := fun x y H Q => ∃ l k xs, x = .ref l ∧ y = .int k ∧ H l = some (.lst xs) ∧ -(2 ^ 63) ≤ k ∧ k < 2 ^ 63 ∧ xs.length * k.toNat ≤ sizeLine ∧ Nw H (.lst (List.replicate k.toNat xs).flatten) Q
abbrev rSlLG (K : PySem.W.Frag) : V → Option Int → Option Int → Hp → VK → Prop := fun x lo hi H Q => ∃ a xs, x = .ref a ∧ SqL K H a xs ∧ Nw H (.lst (cutV xs lo hi)) Q
abbrev rListOfG (K : PySem.W.Frag) : List V → Hp → VK → Prop := fun xs H Q => ∃ p ys, xs = [.ref p] ∧ (SqL K H p ys ∨ SqT K H p ys) ∧ Nw H (.lst ys) Q
/-- sorted of ints -/
abbrev rSrtIG (K : PySem.W.Frag) : List V → Hp → VK → Prop := fun vs H Q => ∃ (a : Addr) (ns : List Int), vs = [V.ref a] ∧ SqL K H a (ns.map V.int) ∧ Nw H (.lst ((ns.mergeSort (fun a b => decide (a ≤ b))).map V.int)) Q
section
variable {X : Cx} {es : List Expr} {t : TA} {pos : Pos}
theorem pe_tupG {x1} (h : PA X es t) : PE X (.Tuple es x1 pos) (tTupG t) := by
  refine ⟨fun pins s σ H Q I hq => ?_⟩
  refine wpAny_Tuple_spliced (thn (h.run pos pins s σ H _ I hq) fun us s1 ⟨xs, H1, I1, r, z, q⟩ => ⟨by rw [← r.length]; exact z, ?_⟩)
  have hf : H1 s1.heap.objs.size = none := I1.hok.fresh (Nat.le_refl _)
  refine ⟨.ref s1.heap.objs.size, upd H1 s1.heap.objs.size (.tup xs), I1.laid (t' := s1.toks) (fun b u e => Heap.get?_push_of_some _ e) (Nat.le_refl _) ?_, rfl, q.use _ hf⟩
  exact ⟨z, us, r, ⟨_, Heap.get?_push_size _ rfl, rfl, _, rfl⟩⟩
theorem pe_lstG (h : PA X es t) : PE X (.List es pos) (tLstG t) := by
  refine ⟨fun pins s σ H Q I hq => ?_⟩
  refine wpAny_List_spliced (thn (h.run pos pins s σ H _ I hq) fun us s1 ⟨xs, H1, I1, r, z, q⟩ => ⟨by rw [← r.length]; exact z, ?_⟩)
  have hf : H1 s1.heap.objs.size = none := I1.hok.fresh (Nat.le_refl _)
  refine ⟨.ref s1.heap.objs.size, upd H1 s1.heap.objs.size (.lst xs), I1.laid (t' := s1.toks) (fun b u e => Heap.get?_push_of_some _ e) (Nat.le_refl _) ?_, rfl, q.use _ hf⟩
  exact ⟨z, us, 0, r, Heap.get?_push_size _ rfl⟩
theorem pe_dnewTG : PE X (.Dict [] [] pos) tDNewTG := ⟨fun pins s σ H Q I h => pe_dnewT.run pins s σ H Q I h.use⟩
theorem pe_listRgG {e : Expr} {te : L2.St → Hp → (Int → Int → Hp → Prop) → Prop} {p pos : Pos} (hc : X.calm = true) (hg : Gl X "list") (hm : X.mg "list" = none) (he : PRg X e te) (na : starEach [e] X.env = (false, eval e X.env) :: starEach [] X.env := by rfl) : PE X (.Call (.Name "list" p) [e] [] pos) (tLstRgG te) := by
  refine ⟨fun pins s σ H Q I h => ?_⟩
  refine Call_ (ld_blt I hg hm boot_list (PyProof.Rows.callWith_type1 (args_cons (thn (he pins s σ H _ I h) fun x s1 ⟨r, a, b, t, u, v, H1, ex, hr, I1, ok, q⟩ => args_nil ?_) na) na))
  subst ex
  obtain ⟨b1, b2, b3, b4, b5⟩ := ok
  refine call_list_range (n := (b - a).toNat) (I1.ok.hd hc) hr (small_one b1 b2 b3 b4) (rangeSize_nat a b) b5 fun h' tk acc c' hk e' hi => ?_
  refine ⟨.ref s1.heap.objs.size, upd H1 s1.heap.objs.size (.lst (rgV a b)), I1.laid hk (Nat.le_refl _) (show ObjOk X.prog X.w _ _ _ (.lst (rgV a b)) from ⟨?_, acc.toList, c', vals_rg hi, ?_⟩), rfl, q.use _ (I1.hok.fresh (Nat.le_refl _))⟩
  · rw [rgV_length, sizeLine_eq]; omega
  · rw [Array.toArray_toList]; exact e'
theorem op_catG : OpR X (binaryOp .Add) rCatG := fun pins s σ H x y u v Q I rx ry h => by
  obtain ⟨l, b, xs, zs, e1, e2, e3, e4, e5, q⟩ := h
  exact op_cat pins s σ H x y u v Q I rx ry ⟨l, b, xs, zs, e1, e2, e3, e4, e5, q.use⟩
theorem op_repG : OpR X (binaryOp .Mult) rRepG := fun pins s σ H x y u v Q I rx ry h => by
  obtain ⟨l, k, xs, e1, e2, e3, e4, e5, e6, q⟩ := h
  exact op_rep pins s σ H x y u v Q I rx ry ⟨l, k, xs, e1, e2, e3, e4, e5, e6, q.use⟩
theorem call_list_ofG : CallR X (.type "list") (rListOfG X.K) := fun pins s σ H xs us Q I r h => by
  obtain ⟨p, ys, e1, e2, q⟩ := h
  exact call_list_of pins s σ H xs us Q I r ⟨p, ys, e1, e2, q.use⟩
end
/-! ### two sorted lists of one content are one -/
theorem sorted_uniq {α : Type} {le : α → α → Prop} (anti : ∀ a b, le a b → le b a → a = b) : ∀ {l m : List α}, l.Pairwise le → m.Pairwise le → l.Perm m → l = m
  | [], m, _, _, h => (List.Perm.eq_nil h.symm).symm
  | x :: l, [], _, _, h => absurd h.length_eq (by simp)
  | x :: l, y :: m, hl, hm, h => by
    have hx : x = y ∨ x ∈ m := List.mem_cons.mp (h.mem_iff.mp List.mem_cons_self)
    have hy : y = x ∨ y ∈ l := List.mem_cons.mp (h.mem_iff.mpr List.mem_cons_self)
    have e : x = y := by
      rcases hx with e | hx
      · exact e
      · rcases hy with e | hy
        · exact e.symm
        · exact anti _ _ ((List.pairwise_cons.mp hl).1 y hy) ((List.pairwise_cons.mp hm).1 x hx)
    subst e
    rw [sorted_uniq anti (List.pairwise_cons.mp hl).2 (List.pairwise_cons.mp hm).2 h.cons_inv]
theorem ints_sorted (ns : List Int) : (ns.mergeSort (fun a b => decide (a ≤ b))).Pairwise (· ≤ ·) := by
  have h := List.pairwise_mergeSort (le := fun a b : Int => decide (a ≤ b)) (fun a b c h1 h2 => by simp only [decide_eq_true_eq] at *; omega) (fun a b => by simp only [Bool.or_eq_true, decide_eq_true_eq]; omega) ns
  exact h.imp fun h => of_decide_eq_true h
theorem ints_uniq {ns ms : List Int} (h : ms.Perm ns) (s : ms.Pairwise (· ≤ ·)) : ms = ns.mergeSort (fun a b => decide (a ≤ b)) :=
  sorted_uniq (fun a b h1 h2 => Int.le_antisymm h1 h2) s (ints_sorted ns) (h.trans (List.mergeSort_perm ns _).symm)
def leT (t u : Int × Int) : Bool := !SrtO.lexB u t
theorem leT_iff {t u : Int × Int} : leT t u = true ↔ t.1 < u.1 ∨ (t.1 = u.1 ∧ t.2 ≤ u.2) := by
  unfold leT
  rw [Bool.not_eq_true', SrtO.lexB_no]
  omega
/-- ties sorted -/
def srt (ts : List (Int × Int)) : List (Int × Int) := ts.mergeSort leT
theorem srt_sorted (ts : List (Int × Int)) : (srt ts).Pairwise (fun a b => leT a b = true) :=
  List.pairwise_mergeSort (le := leT) (fun a b c h1 h2 => by rw [leT_iff] at *; omega) (fun a b => by rw [Bool.or_eq_true, leT_iff, leT_iff]; omega) ts
theorem srt_perm (ts : List (Int × Int)) : (srt ts).Perm ts := List.mergeSort_perm ts leT
theorem leT_anti (a b : Int × Int) (h1 : leT a b = true) (h2 : leT b a = true) : a = b := by
  rw [leT_iff] at h1 h2
  have e1 : a.1 = b.1 := by omega
  have e2 : a.2 = b.2 := by omega
  exact Prod.ext e1 e2
theorem srt_uniq {ts us : List (Int × Int)} (h : us.Perm ts) (s : us.Pairwise (fun a b => leT a b = true)) : us = srt ts :=
  sorted_uniq leT_anti s (srt_sorted ts) (h.trans (srt_perm ts).symm)
section
variable {X : Cx}
theorem cr_srtIG : CallR X (.builtin "sorted") (rSrtIG X.K) := fun pins s σ H xs us Q I r h => by
  obtain ⟨a, ns, e1, e2, q⟩ := h
  exact cr_sortedI pins s σ H xs us Q I r ⟨a, ns, e1, e2, fun ns' p pm so np => by rw [ints_uniq pm so]; exact q.use p np⟩
end
/-! ### sorted(d), d a dict of ties -/
abbrev keyT (t : Int × Int) : List L2.Key := [Sum.inl t.1, Sum.inl t.2]
def tdict (ts : List (Int × Int)) : List (List L2.Key × V) := ts.map fun t => (keyT t, V.bl true)
/-- the pair of ints at a value -/
def kH (H : Hp) : Value → Int × Int
  | .ref b => match H b with | some (.tup [.int i, .int j]) => (i, j) | _ => (0, 0)
  | _ => (0, 0)
abbrev rSortedDT : List V → Hp → VK → Prop := fun vs H Q => ∃ (d : Addr) (ts : List (Int × Int)), vs = [.ref d] ∧ H d = some (.dT (tdict ts)) ∧
  ∀ p H' xs, H p = none → Same H H' → H' p = some (.lst xs) → Paired (Pr H') xs (srt ts) → Q (.ref p) H'
/-- sorted(l), l a list of ties -/
abbrev rSortedLT (K : PySem.W.Frag) : List V → Hp → VK → Prop := fun vs H Q => ∃ (a : Addr) (ts : List (Int × Int)), vs = [.ref a] ∧ IsP H a ts ∧
  ∀ p H' xs, H p = none → Same H H' → H' p = some (.lst xs) → Paired (Pr H') xs (srt ts) → Q (.ref p) H'
theorem paired_refs {H : Hp} : ∀ {l : List V}, (∀ v ∈ l, ∃ b i j, v = .ref b ∧ H b = some (.tup [.int i, .int j])) → ∀ k : V → Int × Int, (∀ b i j, H b = some (.tup [.int i, .int j]) → k (.ref b) = (i, j)) → Paired (Pr H) l (l.map k)
  | [], _, _, _ => .nil
  | v :: l, h, k, hk => by
    obtain ⟨b, i, j, rfl, e⟩ := h v List.mem_cons_self
    refine .cons ⟨b, rfl, ?_⟩ (paired_refs (fun v hv => h v (List.mem_cons_of_mem _ hv)) k hk)
    rw [hk b i j e]
    exact e
theorem pr_keys {H : Hp} {k : V → Int × Int} (hk : ∀ b i j, H b = some (.tup [.int i, .int j]) → k (.ref b) = (i, j)) : ∀ {xs : List V} {ts : List (Int × Int)}, Paired (Pr H) xs ts → xs.map k = ts
  | _, _, .nil => rfl
  | _, _, .cons ⟨b, e, h⟩ tl => by
    subst e
    rw [List.map_cons, pr_keys hk tl, hk b _ _ h]
def kV2 (H : Hp) : V → Int × Int
  | .ref b => match H b with | some (.tup [.int i, .int j]) => (i, j) | _ => (0, 0)
  | _ => (0, 0)
theorem kV2_at {H : Hp} (b : Addr) (i j : Int) (h : H b = some (.tup [.int i, .int j])) : kV2 H (.ref b) = (i, j) := by
  show (match H b with | some (.tup [.int i, .int j]) => (i, j) | _ => (0, 0)) = (i, j)
  rw [h]
theorem srtd_leT {α : Type} {k : α → Int × Int} {l : List α} (h : SrtO.Srtd (fun x y => SrtO.lexB (k x) (k y)) l) : (l.map k).Pairwise (fun a b => leT a b = true) := by
  refine List.pairwise_map.mpr (List.Pairwise.imp (fun {a b} q => ?_) h)
  unfold leT
  rw [show SrtO.lexB (k b) (k a) = false from q]
  rfl
section
variable {X : Cx}
theorem cr_sortedLT : CallR X (.builtin "sorted") (rSortedLT X.K) := fun pins s σ H vs us Q I r h => by
  obtain ⟨a, ts, rfl, ⟨xs, ha, hx⟩, q⟩ := h
  refine cr_sortedPO pins s σ H _ us Q I r ⟨a, xs, kV2 H, rfl, sql ha, fun x hm => ?_, fun ys p so st np => ?_⟩
  · obtain ⟨i, hi, e⟩ := List.mem_iff_getElem.mp hm
    obtain ⟨t, _, b, rfl, hb⟩ := paired_get hx (List.getElem?_eq_some_iff.mpr ⟨hi, e⟩)
    refine ⟨b, rfl, ?_⟩
    rw [kV2_at b _ _ hb]
    exact hb
  · have hm : ∀ v ∈ ys, ∃ b i j, v = V.ref b ∧ H b = some (.tup [.int i, .int j]) := fun v hv => by
      obtain ⟨i, hi, e⟩ := List.mem_iff_getElem.mp (st.perm.mem_iff.mp hv)
      obtain ⟨t, _, b, rfl, hb⟩ := paired_get hx (List.getElem?_eq_some_iff.mpr ⟨hi, e⟩)
      exact ⟨b, _, _, rfl, hb⟩
    have hp := paired_refs hm (kV2 H) kV2_at
    have e : ys.map (kV2 H) = srt ts := srt_uniq (by rw [← pr_keys (k := kV2 H) kV2_at hx]; exact st.perm.map _) (srtd_leT so)
    rw [e] at hp
    exact q p _ ys np (same_new np) upd_same (Prs.mono (same_new np) hp)
theorem isKeys_pr {H : Hp} : ∀ {ts : List (Int × Int)} {bs : List Addr}, IsKeys H (tdict ts) bs → Paired (Pr H) (bs.map V.ref) ts
  | [], _, h => by
    cases h
    exact .nil
  | t :: ts, _, h => by
    cases h with
    | cons hd tl => exact .cons ⟨_, rfl, hd⟩ (isKeys_pr tl)
theorem cr_sortedDT (hc : X.calm = true) : CallR X (.builtin "sorted") rSortedDT := by
  intro pins s σ H xs us Q I r h
  obtain ⟨d, ts, rfl, hd, q⟩ := h
  obtain ⟨u, rfl, rx⟩ := r.one
  cases rx
  obtain ⟨z, hs, ks, pr, o, es, ep, ho, hx, hdt, he, hn⟩ := (show ObjOk X.prog X.w H s.heap d (.dT (tdict ts)) from I.hok _ _ hd)
  have l1 : es.size = ks.length := size_of_entries he
  have l2 : (tdict ts).length = ks.length := Paired.length pr
  have hkeys : IsKeys H (tdict ts) (ks.map fun x => x.2.1) := isKeys_of pr
  generalize hbs : (ks.map fun x => x.2.1) = bs at hkeys
  have hpr : Paired (Pr H) (bs.map V.ref) ts := isKeys_pr hkeys
  refine Calls.call_function_entry PyProof.Rows.kind_sorted PyProof.Rows.plain_sorted PyProof.Rows.entry_sorted (PyProof.Rows.args_sorted1 _) ?_
  unfold Builtin.«sorted»
  refine wpAny_bind (m := checkCount "sorted" 1 1 _) (wpAny_pure ?_)
  refine wpAny_bind (PySem.W.kdu_collect (A := X.A.in1) (kdl_raw hs hx hdt) (I.ok.hd hc) ho (by omega) fun h' tk acc hk hacc => ?_)
  have ea : acc.toList = bs.map Value.ref := by
    have hl : acc.toList.length = ks.length := by rw [Array.length_toList, hacc.1]; exact l1
    rw [← hbs, List.map_map]
    apply List.ext_getElem?
    intro j
    rw [List.getElem?_map]
    cases hj : acc.toList[j]? with
    | none =>
      have h1 := List.getElem?_eq_none_iff.mp hj
      rw [List.getElem?_eq_none (by omega)]
      all_goals rfl
    | some v =>
      obtain ⟨en, hen, hv⟩ := hacc.2 j v (by rw [← Array.getElem?_toList]; exact hj)
      have qe := entry_at he j
      rw [hen] at qe
      cases hb : ks[j]? with
      | none =>
        rw [hb] at qe
        exact nomatch (show some en = none from qe)
      | some b =>
        rw [hb] at qe
        have e2 : en = entryOfKey (tupleKind (mixKind X.prog X.w)) b := Option.some.inj qe
        rw [hv, e2]
        all_goals rfl
  have hlen : acc.toList.length ≤ sizeLine := by
    rw [ea, List.length_map, ← hbs, List.length_map, ← l2]
    exact z
  have I1 : Inv X pins σ H { s with heap := h', toks := tk } := I.kept hk
  refine wpAny_bind (wpAny_newList ?_ hlen)
  have hoL : (h'.push (seqObj "list" acc.toList.toArray 0)).get? h'.objs.size = some (seqObj "list" acc.toList.toArray 0) := Heap.get?_push_size _ rfl
  have hp : ∀ v ∈ acc.toList, Srt.IsPair (h'.push (seqObj "list" acc.toList.toArray 0)) v (kH H v).1 (kH H v).2 := fun v hv => by
    rw [ea] at hv
    obtain ⟨b, hb, rfl⟩ := List.mem_map.mp hv
    obtain ⟨i, hi, e⟩ := List.mem_iff_getElem.mp (List.mem_map.mpr ⟨b, hb, rfl⟩ : V.ref b ∈ bs.map V.ref)
    obtain ⟨t, _, b', e', hb'⟩ := paired_get hpr (List.getElem?_eq_some_iff.mpr ⟨hi, e⟩)
    cases e'
    have ek : kH H (.ref b) = t := by
      show (match H b with | some (.tup [.int i, .int j]) => (i, j) | _ => (0, 0)) = t
      rw [hb']
    rw [ek]
    obtain ⟨_, its2, r2, o2, ho2, hc2, n2, hd2⟩ := I1.hok _ _ hb'
    obtain ⟨u1, u2, rfl, ri, rj⟩ := vals2 r2
    obtain ⟨t1, rfl⟩ := ri
    obtain ⟨t2, rfl⟩ := rj
    exact ⟨b, o2, t1, t2, n2, rfl, Heap.get?_push_of_some _ ho2, hc2, hd2⟩
  show wpAny _ _ _ _ _ { s with heap := h'.push (seqObj "list" acc.toList.toArray 0), toks := tk }
  refine wpAny_bind (wpAny_holding (wpAny_call_entry PyProof.Rows.slot_list_sort ⟨_, hoL, rfl⟩ PyProof.Rows.entry_list_sort
    (SrtO.list_sort_ord (s := { s with heap := h'.push (seqObj "list" acc.toList.toArray 0), toks := tk }) (SrtO.swo_lex (kH H)) hoL hlen
      (fun h2 => SrtO.pairs_sortableO (s := { s with heap := h'.push (seqObj "list" acc.toList.toArray 0), toks := tk }) (by omega) hp fun o e => by
        have e' : some o = some (seqObj "list" acc.toList.toArray 0) := e.symm.trans hoL
        cases e'
        intro c
        exact absurd (Value.type.inj c) (by decide)) fun out so st => ⟨_, rfl, ?_⟩)
    (PyProof.Rows.args_list_sort _)))
  obtain ⟨e', he'⟩ := PyProof.Rows.sortedHeap_at (vs := acc.toList) (out := out.toArray) hoL
  have h3 : ∀ u ∈ out, ∃ a, u = Value.ref a := fun u hu => by
    have hm := st.perm.mem_iff.mp hu
    rw [ea] at hm
    obtain ⟨b, _, rfl⟩ := List.mem_map.mp hm
    exact ⟨b, rfl⟩
  have hv : Vals (out.map backV) out := vals_back h3
  have hm : ∀ v ∈ out.map backV, ∃ b i j, v = V.ref b ∧ H b = some (.tup [.int i, .int j]) := fun v hv => by
    obtain ⟨u, hu, rfl⟩ := List.mem_map.mp hv
    have hm := st.perm.mem_iff.mp hu
    rw [ea] at hm
    obtain ⟨b, hb, rfl⟩ := List.mem_map.mp hm
    obtain ⟨i, hi, e⟩ := List.mem_iff_getElem.mp (List.mem_map.mpr ⟨b, hb, rfl⟩ : V.ref b ∈ bs.map V.ref)
    obtain ⟨t, _, b', e', hb'⟩ := paired_get hpr (List.getElem?_eq_some_iff.mpr ⟨hi, e⟩)
    cases e'
    exact ⟨b, _, _, rfl, hb'⟩
  have hpo := paired_refs hm (kV2 H) kV2_at
  have ek : ∀ l : List Value, (∀ u ∈ l, ∃ a, u = Value.ref a) → (l.map backV).map (kV2 H) = l.map (kH H) := fun l hl => by
    rw [List.map_map]
    refine List.map_congr_left fun u hu => ?_
    obtain ⟨a, rfl⟩ := hl u hu
    rfl
  have eo : (out.map backV).map (kV2 H) = srt ts := by
    rw [ek out h3]
    refine srt_uniq ?_ (srtd_leT so)
    have e1 : acc.toList.map (kH H) = ts := by
      rw [ea, ← pr_keys (k := kV2 H) kV2_at hpr, List.map_map, List.map_map]
      rfl
    rw [← e1]
    exact st.perm.map _
  rw [eo] at hpo
  have hz : (out.map backV).length ≤ sizeLine := by
    rw [List.length_map, st.perm.length_eq]
    exact hlen
  refine wpAny_pure ⟨_, rfl, .ref h'.objs.size, upd H h'.objs.size (.lst (out.map backV)), ?_, rfl, ?_⟩
  · refine I1.laid (t' := tk) (fun b u e => ?_) (Nat.le_refl _) (show ObjOk X.prog X.w _ _ _ (.lst (out.map backV)) from ⟨hz, out, e', hv, he'⟩)
    have hb : b < h'.objs.size := Heap.lt_size e
    rw [PyProof.Rows.sortedHeap_old (Nat.ne_of_lt hb) (by rw [size_push']; exact Nat.lt_succ_of_lt hb)]
    exact Heap.get?_push_of_some _ e
  · exact q _ _ (out.map backV) (I1.hok.fresh (Nat.le_refl _)) (same_new (I1.hok.fresh (Nat.le_refl _))) upd_same (Prs.mono (same_new (I1.hok.fresh (Nat.le_refl _))) hpo)
end
section
variable {X : Cx}
theorem sl_listG : SlR X (rSlLG X.K) := fun pins s σ H x v vl vu lo hi sl Q I rx hs pl pu h => by
  obtain ⟨l, xs, e1, e2, q⟩ := h
  exact sl_list pins s σ H x v vl vu lo hi sl Q I rx hs pl pu ⟨l, xs, e1, e2, q.use⟩
end
/-! ### comprehensions -/
section
variable {J : It} {n : Nat} {G : Hp → Prop} {Y : Nat → Hp → V → Hp → Prop} {g : TG} {tt : TT} {te : TE} {vs : List Nat} {σ : L2.St} {H1 : Hp} {D : Addr} {Qd : Hp → Prop}
theorem filter_range_succ (p : Nat → Bool) (i : Nat) : (List.range (i + 1)).filter p = (List.range i).filter p ++ (if p i then [i] else []) := by
  rw [List.range_succ, List.filter_append]
  congr 1
  simp [List.filter_cons]
/-- elements are scalars or things that stand already: what is told is known ahead -/
theorem lc_pure (w : Walk J n G Y) (nD : H1 D = none) (f : Nat → V) (p : Nat → Bool) (hn : n < sizeLine) (hG : ∀ H, Same H1 H → G H)
    (hs : ∀ (i : Nat) (x : V) (H H' : Hp) (Nx : V → Hp → Prop) (Ny : Hp → Prop), i < n → Same H1 H → Y i H x H' → (p i = true → ∀ H4, Same H H4 → Nx (f i) H4) → (p i = false → ∀ H3, Same H H3 → Ny H3) →
      g x (wipe σ vs) H' fun σ2 H2 => wipe σ2 vs = wipe σ vs ∧ tt σ2 H2 fun b H3 => if b = true then te σ2 H3 Nx else Ny H3)
    (hd : ∀ H, Same H1 H → H D = some (.lst (((List.range n).filter p).map f)) → Qd H) :
    ∃ W : Nat → Nat → Hp → Prop, (∃ m, W 0 m (upd H1 D (.lst []))) ∧ ∀ i m H, W i m H →
      (J.stop i H ∧ Qd H) ∨ (J.go i H ∧ ∃ Nx : Hp → Prop, (∀ H', Nx H' → ∃ m', m' < m ∧ W (i + 1) m' H') ∧ ∀ x H', J.yld i H x H' → g x (wipe σ vs) H' fun σ2 H2 => wipe σ2 vs = wipe σ vs ∧ tt σ2 H2 fun b H3 =>
        if b = true then te σ2 H3 fun y H4 => ∃ acc, H4 D = some (.lst acc) ∧ acc.length < sizeLine ∧ Nx (upd H4 D (.lst (acc ++ [y]))) else Nx H3) := by
  refine lc_it w (fun i H => Same H1 H ∧ H D = some (.lst (((List.range i).filter p).map f))) ⟨same_new nD, upd_same⟩ (fun i H _ h => hG H h.1) (fun i x H H' hi h y => ?_) (fun H h => hd H h.1 h.2)
  refine hs i x H H' _ _ hi h.1 y (fun eb H4 q4 => ?_) (fun eb H3 q3 => ?_)
  · refine ⟨_, q4 _ _ h.2, ?_, same_mut (h.1.trans q4) nD, ?_⟩
    · rw [List.length_map]
      have := List.length_filter_le p (List.range i)
      rw [List.length_range] at this
      omega
    · rw [upd_same, filter_range_succ, eb]
      simp
  · refine ⟨h.1.trans q3, ?_⟩
    rw [filter_range_succ, eb]
    simp only [Bool.false_eq_true, if_false, List.append_nil]
    exact q3 _ _ h.2
/-- each element is a new object of its own, known ahead -/
theorem lc_objs (w : Walk J n G Y) (nD : H1 D = none) (o : Nat → HO) (hn : n < sizeLine) (hG : ∀ H, Same H1 H → G H)
    (hs : ∀ (i : Nat) (x : V) (H H' : Hp) (Nx : V → Hp → Prop) (Ny : Hp → Prop), i < n → Same H1 H → Y i H x H' → (∀ b H4, H b = none → Same H H4 → H4 b = some (o i) → Nx (.ref b) H4) →
      g x (wipe σ vs) H' fun σ2 H2 => wipe σ2 vs = wipe σ vs ∧ tt σ2 H2 fun b H3 => if b = true then te σ2 H3 Nx else Ny H3)
    (hd : ∀ (H : Hp) (bs : List Addr), Same H1 H → H D = some (.lst (bs.map V.ref)) → bs.length = n → bs.Nodup → (∀ (i : Nat) b, bs[i]? = some b → H b = some (o i) ∧ H1 b = none ∧ b ≠ D) → Qd H) :
    ∃ W : Nat → Nat → Hp → Prop, (∃ m, W 0 m (upd H1 D (.lst []))) ∧ ∀ i m H, W i m H →
      (J.stop i H ∧ Qd H) ∨ (J.go i H ∧ ∃ Nx : Hp → Prop, (∀ H', Nx H' → ∃ m', m' < m ∧ W (i + 1) m' H') ∧ ∀ x H', J.yld i H x H' → g x (wipe σ vs) H' fun σ2 H2 => wipe σ2 vs = wipe σ vs ∧ tt σ2 H2 fun b H3 =>
        if b = true then te σ2 H3 fun y H4 => ∃ acc, H4 D = some (.lst acc) ∧ acc.length < sizeLine ∧ Nx (upd H4 D (.lst (acc ++ [y]))) else Nx H3) := by
  refine lc_it w (fun i H => ∃ bs : List Addr, Same H1 H ∧ H D = some (.lst (bs.map V.ref)) ∧ bs.length = i ∧ bs.Nodup ∧ ∀ (j : Nat) b, bs[j]? = some b → H b = some (o j) ∧ H1 b = none ∧ b ≠ D)
    ⟨[], same_new nD, upd_same, rfl, List.nodup_nil, fun j b e => by simp at e⟩ (fun i H _ ⟨bs, h, _⟩ => hG H h) (fun i x H H' hi ⟨bs, h, hD, hl, nd, hb⟩ y => ?_) (fun H ⟨bs, h, hD, hl, nd, hb⟩ => hd H bs h hD hl nd hb)
  refine hs i x H H' _ _ hi h y (fun b H4 nb q4 hb4 => ?_)
  have nbD : b ≠ D := fun e => by
    rw [e, hD] at nb
    cases nb
  refine ⟨_, q4 _ _ hD, ?_, bs ++ [b], same_mut (h.trans q4) nD, ?_, ?_, ?_, fun j c e => ?_⟩
  · rw [List.length_map]
    omega
  · rw [upd_same, List.map_append]
    rfl
  · rw [List.length_append]
    show bs.length + 1 = i + 1
    omega
  · refine List.nodup_append.mpr ⟨nd, by simp, fun x hx z hz e => ?_⟩
    have e2 : z = b := by simpa using hz
    subst e2
    subst e
    obtain ⟨j, hj, e⟩ := List.mem_iff_getElem.mp hx
    rw [(hb j x (List.getElem?_eq_some_iff.mpr ⟨hj, e⟩)).1] at nb
    cases nb
  · rcases Nat.lt_or_ge j bs.length with hj | hj
    · rw [List.getElem?_append_left hj] at e
      obtain ⟨e1, e2, e3⟩ := hb j c e
      exact ⟨by rw [upd_ne e3]; exact q4 _ _ e1, e2, e3⟩
    · rw [List.getElem?_append_right hj] at e
      have hj0 : j - bs.length = 0 := by
        rcases Nat.eq_zero_or_pos (j - bs.length) with z | z
        · exact z
        · rw [List.getElem?_eq_none (by simp; omega)] at e
          cases e
      rw [hj0] at e
      have e1 : b = c := Option.some.inj e
      subst e1
      have e2 : j = i := by omega
      subst e2
      exact ⟨by rw [upd_ne nbD]; exact hb4, h.free nb, nbD⟩
/-- elements are ints, none left out -/
theorem lc_ints (w : Walk J n G Y) (nD : H1 D = none) (f : Nat → Int) (hn : n < sizeLine) (hG : ∀ H, Same H1 H → G H)
    (hs : ∀ (i : Nat) (x : V) (H H' : Hp) (Nx : V → Hp → Prop) (Ny : Hp → Prop), i < n → Same H1 H → Y i H x H' → (∀ H4, Same H H4 → Nx (.int (f i)) H4) →
      g x (wipe σ vs) H' fun σ2 H2 => wipe σ2 vs = wipe σ vs ∧ tt σ2 H2 fun b H3 => if b = true then te σ2 H3 Nx else Ny H3)
    (hd : ∀ H, Same H1 H → H D = some (.lst (((List.range n).map f).map V.int)) → Qd H) :
    ∃ W : Nat → Nat → Hp → Prop, (∃ m, W 0 m (upd H1 D (.lst []))) ∧ ∀ i m H, W i m H →
      (J.stop i H ∧ Qd H) ∨ (J.go i H ∧ ∃ Nx : Hp → Prop, (∀ H', Nx H' → ∃ m', m' < m ∧ W (i + 1) m' H') ∧ ∀ x H', J.yld i H x H' → g x (wipe σ vs) H' fun σ2 H2 => wipe σ2 vs = wipe σ vs ∧ tt σ2 H2 fun b H3 =>
        if b = true then te σ2 H3 fun y H4 => ∃ acc, H4 D = some (.lst acc) ∧ acc.length < sizeLine ∧ Nx (upd H4 D (.lst (acc ++ [y]))) else Nx H3) := by
  refine lc_pure w nD (fun i => .int (f i)) (fun _ => true) hn hG (fun i x H H' Nx Ny hi s1 y hx hy => hs i x H H' Nx Ny hi s1 y (hx rfl)) fun H s1 hD => hd H s1 ?_
  rw [hD, List.filter_eq_self.mpr (fun _ _ => rfl), List.map_map]
  rfl
end
theorem walk_rng0 {n : Nat} : Walk (Itr 0 n) n (fun _ => True) (YFn fun i => .int ((i : Nat) : Int)) :=
  walk_range.mono (fun _ h => h) fun i H x H' _ _ y => ⟨y.1, by rw [y.2]; show V.int (0 + (i : Int)) = V.int (i : Int); rw [Int.zero_add]⟩
end G39

/-! Webs: the program's own defs over good webs. -/
namespace G39
open PySem PySem.Spec PyProof.Rows L2
abbrev Fin (Q : VK) : Ends := { nx := fun _ H' => Q .non H', rt := Q }
/-! is_whole, is_within, is_tie -/
def sp_is_whole (K : PySem.W.Frag) : Sp := fun vs H Q _ => ∃ i : Int, vs = [.int i] ∧ Q (.bl true) H
def t_is_whole (K : PySem.W.Frag) : TS := (tRet (tAndV (tCB (rIsi K) (tCons (tVar 0) (tCons (tC (.ty "int")) tNil))) (tNotV (tCB (rIsi K) (tCons (tVar 0) (tCons (tC (.ty "bool")) tNil))))))
theorem pure_is_whole {K : PySem.W.Frag} {vs : List V} {H : Hp} {Q : VK} {E : XK} (h : sp_is_whole K vs H Q E) : t_is_whole K (Fin Q) (start ["thing"] vs) H := by
  obtain ⟨i, rfl, q⟩ := h
  exact ⟨_, rfl, _, _, _, _, _, rfl, .ty "int", ty_int i, k_ii, _, rfl, iteT ⟨_, rfl, _, _, _, _, _, rfl, .ty "bool", ty_int i, k_ib, _, rfl, q⟩⟩
def sp_is_within (K : PySem.W.Frag) : Sp := fun vs H Q _ => ∃ i lo hi : Int, vs = [.int i, .int lo, .int hi] ∧ Q (.bl (decide (lo ≤ i ∧ i ≤ hi))) H
def t_is_within (K : PySem.W.Frag) : TS := (tRet (tAndV (tCall (sp_is_whole K) [] E0 (tCons (tVar 0) tNil)) (tChain rLe rLe (tVar 1) (tVar 0) (tVar 2))))
theorem pure_is_within {K : PySem.W.Frag} {vs : List V} {H : Hp} {Q : VK} {E : XK} (h : sp_is_within K vs H Q E) : t_is_within K (Fin Q) (start ["thing", "least", "most"] vs) H := by
  obtain ⟨i, lo, hi, rfl, q⟩ := h
  refine ⟨_, rfl, i, rfl, _, rfl, iteT ⟨_, rfl, _, rfl, _, _, rfl, rfl, _, rfl, ?_⟩⟩
  by_cases h1 : lo ≤ i
  · rw [decide_eq_true h1]
    refine iteT ⟨_, rfl, _, _, rfl, rfl, ?_⟩
    have e : decide (i ≤ hi) = decide (lo ≤ i ∧ i ≤ hi) := by simp [h1]
    show Q (.bl (decide (i ≤ hi))) H
    rw [e]
    exact q
  · rw [decide_eq_false h1]
    refine iteF ?_
    have e : false = decide (lo ≤ i ∧ i ≤ hi) := by simp [h1]
    rw [e]
    exact q
/-- of a pair that is a tie -/
def sp_is_tie (K : PySem.W.Frag) : Sp := fun vs H Q _ => ∃ (n : Int) (x : V) (t : Int × Int), vs = [.int n, x] ∧ Pr H x t ∧ 0 ≤ t.1 ∧ t.1 < t.2 ∧ t.2 < n ∧ Q (.bl true) H
def t_is_tie (K : PySem.W.Frag) : TS := (tSeq (tIfS (tOr (tNot (tB (tCB (rIsi K) (tCons (tVar 1) (tCons (tC (.ty "tuple")) tNil))))) (tTest (tOp rNe (tCB (rLenSq K) (tCons (tVar 1) tNil)) (tC (.int 2))))) (tRet (tC (.bl false))) tNext)
    (tSeq (tIfS (tOr (tNot (tB (tCall (sp_is_within K) [] E0 (tCons (tOp (rIxT K) (tVar 1) (tC (.int 0))) (tCons (tC (.int 0)) (tCons (tOp rSub (tVar 0) (tC (.int 1))) tNil)))))) (tNot (tB (tCall (sp_is_within K) [] E0 (tCons (tOp (rIxT K) (tVar 1) (tC (.int 1))) (tCons (tC (.int 0)) (tCons (tOp rSub (tVar 0) (tC (.int 1))) tNil))))))) (tRet (tC (.bl false))) tNext)
    (tRet (tOp rLt (tOp (rIxT K) (tVar 1) (tC (.int 0))) (tOp (rIxT K) (tVar 1) (tC (.int 1)))))))
theorem pure_is_tie {K : PySem.W.Frag} {vs : List V} {H : Hp} {Q : VK} {E : XK} (h : sp_is_tie K vs H Q E) : t_is_tie K (Fin Q) (start ["many", "thing"] vs) H := by
  obtain ⟨n, x, ⟨a, b⟩, rfl, ⟨p, rfl, hp⟩, h0, h1, h2, q⟩ := h
  refine ⟨_, rfl, _, _, _, _, _, rfl, .ty "tuple", ty_tup hp, k_tt, _, rfl, iteF ⟨_, rfl, _, _, rfl, .inr (sqt hp), rfl, _, rfl, iteF ?_⟩⟩
  have w1 : decide (0 ≤ a ∧ a ≤ n - 1) = true := decide_eq_true (by simp only at h0 h1 h2; omega)
  have w2 : decide (0 ≤ b ∧ b ≤ n - 1) = true := decide_eq_true (by simp only at h0 h1 h2; omega)
  refine ⟨_, rfl, _, _, _, _, rfl, rfl, sqt hp, atI_nat (j := 0) rfl, _, rfl, _, _, rfl, rfl, a, 0, n - 1, rfl, _, rfl, ?_⟩
  rw [w1]
  refine iteF ⟨_, rfl, _, _, _, _, rfl, rfl, sqt hp, atI_nat (j := 1) rfl, _, rfl, _, _, rfl, rfl, b, 0, n - 1, rfl, _, rfl, ?_⟩
  rw [w2]
  refine iteF ⟨_, rfl, _, _, _, _, rfl, rfl, sqt hp, atI_nat (j := 0) rfl, _, rfl, _, _, _, _, rfl, rfl, sqt hp, atI_nat (j := 1) rfl, a, b, rfl, rfl, ?_⟩
  show Q (.bl (decide (a < b))) H
  rw [decide_eq_true (show a < b from h1)]
  exact q
/-! look_at_web -/
def sp_look_at_web (K : PySem.W.Frag) : Sp := fun vs H Q _ => ∃ (v : V) (n : Int) (ts : List (Int × Int)), vs = [v] ∧ IsW H v n ts ∧ WebOk n ts ∧ ∀ H', Same H H' → Q .non H'
def t_look_at_web (K : PySem.W.Frag) : TS := (tSeq (tIfS (tOr (tNot (tB (tCB (rIsi K) (tCons (tVar 0) (tCons (tC (.ty "tuple")) tNil))))) (tTest (tOp rNe (tCB (rLenSq K) (tCons (tVar 0) tNil)) (tC (.int 2))))) tNever tNext)
    (tSeq (tAsg (tVar 0) (gTup K 2 (gCons (gName 1) (gCons (gName 2) gNil))))
    (tSeq (tIfS (tNot (tB (tCall (sp_is_within K) [] E0 (tCons (tVar 1) (tCons (tC (.int 1)) (tCons (tC (.int 40)) tNil)))))) tNever tNext)
    (tSeq (tIfS (tOr (tNot (tB (tCB (rIsi K) (tCons (tVar 2) (tCons (tC (.ty "list")) tNil))))) (tTest (tOp rGt (tCB (rLenSq K) (tCons (tVar 2) tNil)) (tC (.int 120))))) tNever tNext)
    (tSeq (tAsg (tTupG (tCons (tUn rNeg (tC (.int 1))) (tCons (tUn rNeg (tC (.int 1))) tNil))) (gName 3))
    (tFor (iEnum K (tCons (tVar 2) tNil)) (gTup K 2 (gCons (gName 4) (gCons (gName 5) gNil))) (tSeq (tIfS (tOr (tNot (tB (tCall (sp_is_tie K) [] E0 (tCons (tVar 1) (tCons (tVar 5) tNil))))) (tTest (tOp (rLeT K) (tVar 5) (tVar 3)))) tNever tNext)
    (tAsg (tVar 5) (gName 3)))))))))
theorem lex_le {a b c d : Int} (h : c < a ∨ (c = a ∧ d < b)) :
    Ob.lexAt (fun j => decide (([a, b] : List Int).getD j 0 = ([c, d] : List Int).getD j 0)) (fun j => decide (([a, b] : List Int).getD j 0 ≤ ([c, d] : List Int).getD j 0)) (decide (([a, b] : List Int).length ≤ ([c, d] : List Int).length)) 0 (min ([a, b] : List Int).length ([c, d] : List Int).length) = false := by
  show (if decide (a = c) = true then (if decide (b = d) = true then decide ((2 : Nat) ≤ 2) else decide (b ≤ d)) else decide (a ≤ c)) = false
  rcases h with h | ⟨rfl, h⟩
  · rw [if_neg (by simp; omega), decide_eq_false (by omega)]
  · rw [if_pos (by simp), if_neg (by simp; omega), decide_eq_false (by omega)]
/-- the tie ahead of the i-th: (-1, -1) ahead of all -/
def ahd (ts : List (Int × Int)) : Nat → Int × Int
  | 0 => (-1, -1)
  | i + 1 => ts.getD i (-1, -1)
theorem ahd_lt {n : Int} {ts : List (Int × Int)} (W : WebOk n ts) : ∀ {i : Nat} {t : Int × Int}, ts[i]? = some t → ltT (ahd ts i) t
  | 0, t, h => by
    have g := W.good t (List.mem_of_getElem? h)
    exact .inl (by show (-1 : Int) < t.1; omega)
  | i + 1, t, h => by
    obtain ⟨hi, e⟩ := List.getElem?_eq_some_iff.mp h
    have e1 : ahd ts (i + 1) = ts[i]'(by omega) := by
      show ts.getD i (-1, -1) = _
      rw [List.getD_eq_getElem?_getD, List.getElem?_eq_getElem (by omega)]
      rfl
    rw [e1, ← e]
    exact List.pairwise_iff_getElem.mp W.ord i (i + 1) (by omega) hi (by omega)
theorem pure_look_at_web {K : PySem.W.Frag} {vs : List V} {H : Hp} {Q : VK} {E : XK} (h : sp_look_at_web K vs H Q E) : t_look_at_web K (Fin Q) (start ["thing", "many", "ties", "ahead", "number", "tie"] vs) H := by
  obtain ⟨v, n, ts, rfl, ⟨p, a, rfl, hp, xs, ha, hx⟩, W, q⟩ := h
  have hl : xs.length = ts.length := Paired.length hx
  refine ⟨_, rfl, _, _, _, _, _, rfl, .ty "tuple", ty_tup hp, k_tt, _, rfl, iteF ⟨_, rfl, _, _, rfl, .inr (sqt hp), rfl, _, rfl, iteF ?_⟩⟩
  refine ⟨_, rfl, _, _, rfl, sqt hp, rfl, _, _, rfl, _, _, rfl, rfl, ?_⟩
  refine ⟨_, rfl, n, 1, 40, rfl, _, rfl, ?_⟩
  rw [decide_eq_true (show 1 ≤ n ∧ n ≤ 40 from ⟨W.lo, W.hi⟩)]
  refine iteF ⟨_, rfl, _, _, _, _, _, rfl, .ty "list", ty_lst ha, k_ll, _, rfl, iteF ⟨_, rfl, _, _, rfl, .inl (sql ha), _, _, rfl, rfl, _, rfl, ?_⟩⟩
  rw [decide_eq_false (show ¬ (120 : Int) < (xs.length : Int) by have := W.few; omega)]
  refine iteF ⟨_, rfl, _, rfl, by show 2 ≤ sizeLine; decide, fun z H1 nz s1 hz => ?_⟩
  have ha1 : H1 a = some (.lst xs) := s1 _ _ ha
  refine ⟨_, rfl, a, xs, rfl, sql ha1, for_it (n := xs.length) walk_enum (fun i σ H2 => ∃ (y : Addr) (v4 v5 : Option V), σ = [some (.ref p), some (.int n), some (.ref a), some (.ref y), v4, v5] ∧ Same H1 H2 ∧ H2 y = some (.tup [.int (ahd ts i).1, .int (ahd ts i).2]))
    ⟨z, none, none, rfl, Same.refl _, hz⟩ (fun i σ H2 _ ⟨_, _, _, _, s2, _⟩ => sql (s2 _ _ ha1)) ?_ ?_⟩
  · rintro i x σ H2 H3 hi ⟨y, v4, v5, rfl, s2, hy⟩ ⟨T, x1, x2, rfl, nT, rfl, e1, e2⟩
    have s3 : Same H2 (upd H2 T (.tup [x1, x2])) := same_new nT
    obtain ⟨t, ht, b, rfl, hb⟩ := paired_get hx e2
    have hb3 := s3 _ _ (s2 _ _ (s1 _ _ hb))
    have hy3 := s3 _ _ hy
    have g := W.good t (List.mem_of_getElem? ht)
    refine ⟨T, _, rfl, sqt upd_same, rfl, _, _, rfl, _, _, rfl, rfl, ?_⟩
    refine ⟨_, rfl, _, rfl, n, _, t, rfl, ⟨b, rfl, hb3⟩, g.1, g.2.1, g.2.2, _, rfl, iteF ⟨_, rfl, _, rfl, b, y, [t.1, t.2], [(ahd ts i).1, (ahd ts i).2], rfl, rfl, sqt hb3, sqt hy3, _, rfl, ?_⟩⟩
    rw [lex_le (ahd_lt W ht)]
    refine iteF ⟨_, rfl, b, _, _, rfl, s2.trans s3, ?_⟩
    have e : ahd ts (i + 1) = t := by
      show ts.getD i (-1, -1) = t
      rw [List.getD_eq_getElem?_getD, ht]
      rfl
    rw [e]
    exact hb3
  · rintro σ H2 ⟨y, v4, v5, rfl, s2, hy⟩
    exact q H2 (s1.trans s2)
/-! places -/
def sp_is_place (K : PySem.W.Frag) : Sp := fun vs H Q _ => ∃ (v : V) (n : Int) (ts : List (Int × Int)) (i : Int), vs = [v, .int i] ∧ IsW H v n ts ∧ Q (.bl (decide (0 ≤ i ∧ i ≤ n - 1))) H
def t_is_place (K : PySem.W.Frag) : TS := (tRet (tCall (sp_is_within K) [] E0 (tCons (tVar 1) (tCons (tC (.int 0)) (tCons (tOp rSub (tOp (rIxT K) (tVar 0) (tC (.int 0))) (tC (.int 1))) tNil)))))
theorem pure_is_place {K : PySem.W.Frag} {vs : List V} {H : Hp} {Q : VK} {E : XK} (h : sp_is_place K vs H Q E) : t_is_place K (Fin Q) (start ["web", "thing"] vs) H := by
  obtain ⟨v, n, ts, i, rfl, ⟨p, a, rfl, hp, _⟩, q⟩ := h
  exact ⟨_, rfl, _, rfl, _, _, _, _, rfl, rfl, sqt hp, atI_nat (j := 0) rfl, _, _, rfl, rfl, i, 0, n - 1, rfl, q⟩
def sp_look_at_place (K : PySem.W.Frag) : Sp := fun vs H Q _ => ∃ (v : V) (n : Int) (ts : List (Int × Int)) (i : Int), vs = [v, .int i] ∧ IsW H v n ts ∧ 0 ≤ i ∧ i < n ∧ Q .non H
def t_look_at_place (K : PySem.W.Frag) : TS := (tIfS (tNot (tB (tCall (sp_is_place K) [] E0 (tCons (tVar 0) (tCons (tVar 1) tNil))))) tNever tNext)
theorem pure_look_at_place {K : PySem.W.Frag} {vs : List V} {H : Hp} {Q : VK} {E : XK} (h : sp_look_at_place K vs H Q E) : t_look_at_place K (Fin Q) (start ["web", "place"] vs) H := by
  obtain ⟨v, n, ts, i, rfl, hw, h0, h1, q⟩ := h
  refine ⟨_, rfl, _, rfl, v, n, ts, i, rfl, hw, _, rfl, ?_⟩
  rw [decide_eq_true (show 0 ≤ i ∧ i ≤ n - 1 by omega)]
  exact iteF q
/-- the tie between two places -/
def tieOf (a b : Int) : Int × Int := (if b < a then b else a, if b > a then b else a)
def sp_tie_of (K : PySem.W.Frag) : Sp := fun vs H Q _ => ∃ a b : Int, vs = [.int a, .int b] ∧ Nw H (.tup [.int (tieOf a b).1, .int (tieOf a b).2]) Q
def t_tie_of (K : PySem.W.Frag) : TS := (tRet (tTupG (tCons (tCB rMin2 (tCons (tVar 0) (tCons (tVar 1) tNil))) (tCons (tCB rMax2 (tCons (tVar 0) (tCons (tVar 1) tNil))) tNil))))
theorem pure_tie_of {K : PySem.W.Frag} {vs : List V} {H : Hp} {Q : VK} {E : XK} (h : sp_tie_of K vs H Q E) : t_tie_of K (Fin Q) (start ["one", "other"] vs) H := by
  obtain ⟨a, b, rfl, q⟩ := h
  exact ⟨_, rfl, _, rfl, a, b, rfl, _, rfl, _, rfl, a, b, rfl, by show 2 ≤ sizeLine; decide, q⟩
/-! beside_all -/
def adj1 (t : Int × Int) (k : Int) : List Int := (if t.1 = k then [t.2] else []) ++ (if t.2 = k then [t.1] else [])
def adj (ts : List (Int × Int)) (k : Int) : List Int := ts.flatMap fun t => adj1 t k
/-- the neighbours of a place, rising -/
def nbs (ts : List (Int × Int)) (k : Int) : List Int := (adj ts k).mergeSort (fun a b => decide (a ≤ b))
/-- the lists of neighbours stand at bs -/
structure Bes (H : Hp) (bs : List Addr) (n : Int) (ts : List (Int × Int)) : Prop where
  len : bs.length = n.toNat
  at_ : ∀ (i : Nat) b, bs[i]? = some b → H b = some (.lst ((nbs ts i).map V.int))
theorem Bes.mono {H H' : Hp} {bs : List Addr} {n : Int} {ts : List (Int × Int)} (e : Same H H') (h : Bes H bs n ts) : Bes H' bs n ts := ⟨h.len, fun i b q => e _ _ (h.at_ i b q)⟩
def sp_beside_all (K : PySem.W.Frag) : Sp := fun vs H Q _ => ∃ (v : V) (n : Int) (ts : List (Int × Int)), vs = [v] ∧ IsW H v n ts ∧ WebOk n ts ∧
  ∀ (p : Addr) (bs : List Addr) (H' : Hp), Same H H' → H p = none → H' p = some (.lst (bs.map V.ref)) → Bes H' bs n ts → bs.Nodup → (∀ b ∈ bs, H b = none ∧ b ≠ p) → Q (.ref p) H'
def t_beside_all (K : PySem.W.Frag) : TS := (tSeq (tAsg (tLc (iRng1 (tCons (tOp (rIxT K) (tVar 0) (tC (.int 0))) tNil)) (gName 4) tYes (tLstG tNil) [4]) (gName 1))
    (tSeq (tFor (iList K (tOp (rIxT K) (tVar 0) (tC (.int 1)))) (gTup K 2 (gCons (gName 2) (gCons (gName 3) gNil))) (tSeq (tDrop (tBM K "list" rAppend (tOp (rIxL K) (tVar 1) (tVar 2)) (tCons (tVar 3) tNil)))
    (tDrop (tBM K "list" rAppend (tOp (rIxL K) (tVar 1) (tVar 3)) (tCons (tVar 2) tNil)))))
    (tRet (tLc (iList K (tVar 1)) (gName 5) tYes (tCB (rSrtIG K) (tCons (tVar 5) tNil)) [5]))))
theorem adj_take {ts : List (Int × Int)} {i : Nat} {t : Int × Int} (h : ts[i]? = some t) (k : Int) : adj (ts.take (i + 1)) k = adj (ts.take i) k ++ adj1 t k := by
  unfold adj
  rw [List.take_add_one, h, List.flatMap_append]
  congr 1
  simp
theorem adj1_len (t : Int × Int) (k : Int) : (adj1 t k).length ≤ 2 := by
  unfold adj1
  split <;> split <;> simp
theorem adj_len (ts : List (Int × Int)) (k : Int) : (adj ts k).length ≤ 2 * ts.length := by
  induction ts with
  | nil => simp [adj]
  | cons t ts ih =>
    have h1 := adj1_len t k
    have e : adj (t :: ts) k = adj1 t k ++ adj ts k := by simp [adj]
    rw [e, List.length_append, List.length_cons]
    omega
theorem tyl {K : PySem.W.Frag} {H : Hp} {a : Addr} {xs : List V} (h : H a = some (.lst xs)) : tyV K "list" (.ref a) H := .inl ⟨rfl, _, sql h⟩
theorem map_ref_get {bs : List Addr} {i : Nat} {b : Addr} (h : bs[i]? = some b) : (bs.map V.ref)[i]? = some (.ref b) := by
  rw [List.getElem?_map, h]
  rfl
theorem getn {α : Type} {l : List α} {i : Nat} (h : i < l.length) : ∃ b, l[i]? = some b := ⟨_, List.getElem?_eq_getElem h⟩
theorem pure_beside_all {K : PySem.W.Frag} {vs : List V} {H : Hp} {Q : VK} {E : XK} (h : sp_beside_all K vs H Q E) : t_beside_all K (Fin Q) (start ["web", "found", "one", "other", "place", "places"] vs) H := by
  obtain ⟨v, n, ts, rfl, ⟨p, a, rfl, hp, xs, ha, hx⟩, W, q⟩ := h
  have hn0 := W.lo
  have hn1 := W.hi
  have hfew := W.few
  have hsz : sizeLine = 16777216 := sizeLine_eq
  refine ⟨_, rfl, _, _, _, _, rfl, rfl, sqt hp, atI_nat (j := 0) rfl, n, rfl, by omega, by omega, fun D nD => ?_⟩
  refine lc_objs walk_range nD (fun _ => .lst []) (by omega) (fun _ _ => trivial) (fun i x H1 H2 Nx Ny hi s1 y hN => ?_) (fun H1 bs s1 hD hl nd hb => ?_)
  · obtain ⟨rfl, rfl⟩ := y
    exact ⟨rfl, Nat.zero_le _, fun b H3 nb s3 h3 => hN b H3 nb s3 h3⟩
  refine ⟨_, rfl, _, _, _, _, rfl, rfl, sqt (s1 _ _ hp), atI_nat (j := 1) rfl, a, rfl, ⟨_, sql (s1 _ _ ha)⟩, ?_⟩
  refine for_list (K := K) (a := a) (xs := xs) (fun i σ H2 => ∃ v2 v3, σ = [some (.ref p), some (.ref D), v2, v3, none, none] ∧ Same H H2 ∧ H2 D = some (.lst (bs.map V.ref)) ∧
      ∀ (k : Nat) b, bs[k]? = some b → H2 b = some (.lst ((adj (ts.take i) k).map V.int)))
    ⟨none, none, rfl, s1, hD, fun k b e => (hb k b e).1⟩ (fun i σ H2 _ ⟨_, _, _, s2, _⟩ => sql (s2 _ _ ha)) ?_ ?_
  · rintro i x σ H2 hi ⟨v2, v3, rfl, s2, hD2, hb2⟩
    obtain ⟨t, ht, c, rfl, hc⟩ := paired_get hx hi
    have g := W.good t (List.mem_of_getElem? ht)
    have hc2 := s2 _ _ hc
    refine ⟨c, _, rfl, sqt hc2, rfl, _, _, rfl, _, _, rfl, rfl, ?_⟩
    have k1 : t.1.toNat < bs.length := by omega
    have k2 : t.2.toNat < bs.length := by omega
    obtain ⟨b1, e1⟩ := getn k1
    obtain ⟨b2, e2⟩ := getn k2
    have ne12 : b2 ≠ b1 := fun e => by
      rw [e] at e2
      have := nd_ix nd e1 e2
      omega
    have hB1 := hb2 _ _ e1
    have hB2 := hb2 _ _ e2
    have c1 : ((t.1.toNat : Nat) : Int) = t.1 := by omega
    have c2 : ((t.2.toNat : Nat) : Int) = t.2 := by omega
    rw [c1] at hB1
    rw [c2] at hB2
    have at1 : atI (bs.map V.ref) t.1 = some (.ref b1) := at_of c1.symm (map_ref_get e1)
    have at2 : atI (bs.map V.ref) t.2 = some (.ref b2) := at_of c2.symm (map_ref_get e2)
    have hlt : ∀ k, (adj (ts.take i) k).length < sizeLine := fun k => by
      have h1 := adj_len (ts.take i) k
      rw [List.length_take] at h1
      omega
    refine ⟨_, rfl, _, rfl, _, _, _, _, rfl, rfl, sql hD2, at1, tyl hB1, _, rfl, b1, _, _, rfl, rfl, hB1, by rw [List.length_map]; exact hlt _, ?_⟩
    have nD1 : D ≠ b1 := (hb _ _ e1).2.2.symm
    have nD2 : D ≠ b2 := (hb _ _ e2).2.2.symm
    have s3 : Same H (upd H2 b1 (.lst ((adj (ts.take i) t.1).map V.int ++ [V.int t.2]))) := same_mut s2 (hb _ _ e1).2.1
    have hD3 : (upd H2 b1 (.lst ((adj (ts.take i) t.1).map V.int ++ [V.int t.2]))) D = some (.lst (bs.map V.ref)) := by rw [upd_ne nD1]; exact hD2
    have hB3 : (upd H2 b1 (.lst ((adj (ts.take i) t.1).map V.int ++ [V.int t.2]))) b2 = some (.lst ((adj (ts.take i) t.2).map V.int)) := by rw [upd_ne ne12]; exact hB2
    refine ⟨_, rfl, _, rfl, _, _, _, _, rfl, rfl, sql hD3, at2, tyl hB3, _, rfl, b2, _, _, rfl, rfl, hB3, by rw [List.length_map]; exact hlt _, ?_⟩
    refine ⟨_, _, rfl, same_mut s3 (hb _ _ e2).2.1, by rw [upd_ne nD2]; exact hD3, fun k b e => ?_⟩
    rw [adj_take ht]
    by_cases q2 : b = b2
    · subst q2
      have ek := nd_ix nd e e2
      subst ek
      rw [upd_same, c2]
      have e5 : adj1 t t.2 = [t.1] := by
        unfold adj1
        rw [if_neg (by omega), if_pos rfl]
        rfl
      rw [e5, List.map_append]
      rfl
    · rw [upd_ne q2]
      by_cases q1 : b = b1
      · subst q1
        have ek := nd_ix nd e e1
        subst ek
        rw [upd_same, c1]
        have e5 : adj1 t t.1 = [t.2] := by
          unfold adj1
          rw [if_pos rfl, if_neg (by omega)]
          rfl
        rw [e5, List.map_append]
        rfl
      · rw [upd_ne q1, hb2 k b e]
        have e5 : adj1 t (k : Int) = [] := by
          unfold adj1
          rw [if_neg, if_neg]
          · rfl
          · intro z
            have e6 : t.2.toNat = k := by omega
            rw [e6, e] at e2
            exact q2 (Option.some.inj e2)
          · intro z
            have e6 : t.1.toNat = k := by omega
            rw [e6, e] at e1
            exact q1 (Option.some.inj e1)
        rw [e5, List.append_nil]
  · rintro σ H2 ⟨v2, v3, rfl, s2, hD2, hb2⟩
    have el : ts.take xs.length = ts := List.take_of_length_le (by rw [Paired.length hx]; exact Nat.le_refl _)
    rw [el] at hb2
    refine ⟨_, rfl, D, rfl, ⟨_, sql hD2⟩, fun D2 nD2 => ?_⟩
    refine lc_objs (walk_list (xs := bs.map V.ref)) nD2 (fun i => .lst ((nbs ts i).map V.int)) (by rw [List.length_map]; omega) (fun H3 s3 => sql (s3 _ _ hD2)) (fun i x H3 H4 Nx Ny hi s3 y hN => ?_) (fun H3 cs s3 hD3 hl3 nd3 hb3 => ?_)
    · obtain ⟨rfl, hy⟩ := y
      rw [List.getElem?_map] at hy
      cases e : bs[i]? with
      | none =>
        rw [e] at hy
        cases hy
      | some b =>
        rw [e] at hy
        have e2 : V.ref b = x := Option.some.inj hy
        subst e2
        refine ⟨rfl, _, rfl, b, _, rfl, sql (s3 _ _ (hb2 i b e)), fun c H5 nc s5 h5 => hN c H5 nc s5 h5⟩
    · rw [List.length_map] at hl3
      refine q D2 cs H3 (s2.trans s3) (s2.free nD2) hD3 ⟨by omega, fun i b e => (hb3 i b e).1⟩ nd3 fun b hm => ?_
      obtain ⟨j, hj, e⟩ := List.mem_iff_getElem.mp hm
      obtain ⟨_, g1, g2⟩ := hb3 j b (List.getElem?_eq_some_iff.mpr ⟨hj, e⟩)
      exact ⟨s2.free g1, g2⟩
/-! is_tied, neighbours -/
abbrev prD (t : Int × Int) : PyData := .tuple [.int t.1, .int t.2]
theorem Pr.dp {K : PySem.W.Frag} {H : Hp} {x : V} {t : Int × Int} (h : Pr H x t) : Dp K H x (prD t) := by
  obtain ⟨b, rfl, hb⟩ := h
  exact .tup (sqt hb) (.cons (.int _) (.cons (.int _) .nil))
theorem Prs.dp {K : PySem.W.Frag} {H : Hp} : ∀ {xs : List V} {ts : List (Int × Int)}, Paired (Pr H) xs ts → DpAll K H xs (ts.map prD)
  | _, _, .nil => .nil
  | _, _, .cons h t => .cons h.dp (Prs.dp t)
theorem IsP.dp {K : PySem.W.Frag} {H : Hp} {a : Addr} {ts : List (Int × Int)} (h : IsP H a ts) : Dp K H (.ref a) (.list (ts.map prD)) := by
  obtain ⟨xs, ha, hx⟩ := h
  exact .lst (sql ha) (Prs.dp hx)
theorem IsW.dp {K : PySem.W.Frag} {H : Hp} {v : V} {n : Int} {ts : List (Int × Int)} (h : IsW H v n ts) : Dp K H v (.tuple [.int n, .list (ts.map prD)]) := by
  obtain ⟨p, a, rfl, hp, hP⟩ := h
  exact .tup (sqt hp) (.cons (.int _) (.cons hP.dp .nil))
theorem canLay_prs : ∀ ts : List (Int × Int), PyData.canLayAll0 (ts.map prD) = true
  | [] => rfl
  | t :: ts => by
    show (PyData.canLay0 (prD t) && PyData.canLayAll0 (ts.map prD)) = true
    rw [canLay_prs ts]
    rfl
theorem depth_prs : ∀ ts : List (Int × Int), PyData.depthAll (ts.map prD) ≤ 1
  | [] => by simp [PyData.depthAll]
  | t :: ts => by
    have ih := depth_prs ts
    have e : PyData.depthAll ((t :: ts).map prD) = max (PyData.depth (prD t)) (PyData.depthAll (ts.map prD)) := rfl
    rw [e]
    have e2 : PyData.depth (prD t) = 1 := rfl
    omega
theorem shaped_pr (t : Int × Int) : SeqAt.shaped (prD t) = true := rfl
theorem shaped_prs (ts : List (Int × Int)) : SeqAt.shaped (.list (ts.map prD)) = true := by
  unfold SeqAt.shaped
  have h1 : PyData.canLay0 (.list (ts.map prD)) = true := canLay_prs ts
  have h2 : PyData.depth (.list (ts.map prD)) ≤ 64 := by
    have := depth_prs ts
    have e : PyData.depth (.list (ts.map prD)) = PyData.depthAll (ts.map prD) + 1 := rfl
    omega
  rw [h1, decide_eq_true h2]
  rfl
theorem eqv_pr (t u : Int × Int) : PyData.eqv (prD t) (prD u) = decide (t = u) := by
  show ((t.1 == u.1) && ((t.2 == u.2) && true)) = decide (t = u)
  rw [Bool.and_true]
  by_cases h : t = u
  · subst h
    simp
  · rw [decide_eq_false h]
    by_cases h1 : t.1 = u.1
    · have h2 : t.2 ≠ u.2 := fun e => h (Prod.ext h1 e)
      simp [h1, h2]
    · simp [h1]
theorem any_prs (ts : List (Int × Int)) (u : Int × Int) : ((ts.map prD).any fun z => PyData.eqv z (prD u)) = decide (u ∈ ts) := by
  rw [List.any_map]
  induction ts with
  | nil => simp
  | cons t ts ih =>
    rw [List.any_cons, ih]
    show (PyData.eqv (prD t) (prD u) || decide (u ∈ ts)) = _
    rw [eqv_pr]
    by_cases h : t = u
    · subst h
      simp
    · have h' : u ≠ t := fun e => h e.symm
      simp [h, h']
def sp_is_tied (K : PySem.W.Frag) : Sp := fun vs H Q _ => ∃ (v : V) (n : Int) (ts : List (Int × Int)) (i j : Int), vs = [v, .int i, .int j] ∧ IsW H v n ts ∧ WebOk n ts ∧ 0 ≤ i ∧ i < n ∧ 0 ≤ j ∧ j < n ∧
  ∀ H', Same H H' → Q (.bl (decide (tieOf i j ∈ ts))) H'
def t_is_tied (K : PySem.W.Frag) : TS := (tSeq (tDrop (tCall (sp_look_at_web K) [] E0 (tCons (tVar 0) tNil)))
    (tSeq (tDrop (tCall (sp_look_at_place K) [] E0 (tCons (tVar 0) (tCons (tVar 1) tNil))))
    (tSeq (tDrop (tCall (sp_look_at_place K) [] E0 (tCons (tVar 0) (tCons (tVar 2) tNil))))
    (tRet (tOp (rInD K) (tCall (sp_tie_of K) [] E0 (tCons (tVar 1) (tCons (tVar 2) tNil))) (tOp (rIxT K) (tVar 0) (tC (.int 1))))))))
theorem pure_is_tied {K : PySem.W.Frag} {vs : List V} {H : Hp} {Q : VK} {E : XK} (h : sp_is_tied K vs H Q E) : t_is_tied K (Fin Q) (start ["web", "one", "other"] vs) H := by
  obtain ⟨v, n, ts, i, j, rfl, hw, W, i0, i1, j0, j1, q⟩ := h
  refine ⟨_, rfl, v, n, ts, rfl, hw, W, fun H1 s1 => ?_⟩
  have hw1 := hw.mono s1
  refine ⟨_, rfl, _, rfl, v, n, ts, i, rfl, hw1, i0, i1, ?_⟩
  refine ⟨_, rfl, _, rfl, v, n, ts, j, rfl, hw1, j0, j1, ?_⟩
  refine ⟨_, rfl, _, rfl, i, j, rfl, fun b H2 nb s2 hb => ?_⟩
  have hw2 := hw1.mono s2
  obtain ⟨p, a, rfl, hp, hP⟩ := id hw2
  refine ⟨_, rfl, _, _, _, _, rfl, rfl, sqt hp, atI_nat (j := 1) rfl, prD (tieOf i j), ts.map prD, Pr.dp ⟨b, rfl, hb⟩, hP.dp, shaped_pr _, shaped_prs _, ?_⟩
  rw [any_prs]
  exact q H2 (s1.trans s2)
def sp_neighbours (K : PySem.W.Frag) : Sp := fun vs H Q _ => ∃ (v : V) (n : Int) (ts : List (Int × Int)) (i : Int), vs = [v, .int i] ∧ IsW H v n ts ∧ WebOk n ts ∧ 0 ≤ i ∧ i < n ∧
  ∀ p H', H p = none → Same H H' → H' p = some (.lst ((nbs ts i).map V.int)) → Q (.ref p) H'
def t_neighbours (K : PySem.W.Frag) : TS := (tSeq (tDrop (tCall (sp_look_at_web K) [] E0 (tCons (tVar 0) tNil)))
    (tSeq (tDrop (tCall (sp_look_at_place K) [] E0 (tCons (tVar 0) (tCons (tVar 1) tNil))))
    (tRet (tOp (rIxL K) (tCall (sp_beside_all K) [] E0 (tCons (tVar 0) tNil)) (tVar 1)))))
theorem pure_neighbours {K : PySem.W.Frag} {vs : List V} {H : Hp} {Q : VK} {E : XK} (h : sp_neighbours K vs H Q E) : t_neighbours K (Fin Q) (start ["web", "place"] vs) H := by
  obtain ⟨v, n, ts, i, rfl, hw, W, i0, i1, q⟩ := h
  refine ⟨_, rfl, v, n, ts, rfl, hw, W, fun H1 s1 => ?_⟩
  have hw1 := hw.mono s1
  refine ⟨_, rfl, _, rfl, v, n, ts, i, rfl, hw1, i0, i1, ?_⟩
  refine ⟨_, rfl, v, n, ts, rfl, hw1, W, fun p bs H2 s2 np hp B nd fr => ?_⟩
  have hl := B.len
  obtain ⟨b, hb⟩ := getn (l := bs) (i := i.toNat) (by omega)
  have c : ((i.toNat : Nat) : Int) = i := by omega
  refine ⟨_, rfl, _, _, _, _, rfl, rfl, sql hp, at_of c.symm (map_ref_get hb), ?_⟩
  refine q b H2 (s1.free (fr b (List.mem_of_getElem? hb)).1) (s1.trans s2) ?_
  rw [B.at_ _ _ hb, c]
end G39

/-! The laws' own makers of webs (cells by numbers). -/
namespace G39
open PySem PySem.Spec PyProof.Rows L2
/-- digits below sizes -/
abbrev Digs (ss ds : List Int) : Prop := Paired (fun s d => 0 ≤ d ∧ d < s) ss ds
abbrev SzOk (ss : List Int) : Prop := ∀ s ∈ ss, 1 ≤ s ∧ s < 1073741824
def sp_law_cell_at (K : PySem.W.Frag) : Sp := fun vs H Q _ => ∃ (a : Addr) (ns : List Int) (k : Int), vs = [.ref a, .int k] ∧ SqL K H a (ns.map V.int) ∧ 0 ≤ k ∧ ∀ c : Int, Q (.int c) H
def t_law_cell_at (K : PySem.W.Frag) : TS := (tSeq (tIfS (tTest (tOp rLt (tVar 1) (tCB (rLenSq K) (tCons (tVar 0) tNil)))) (tRet (tOp (rIxL K) (tVar 0) (tVar 1))) tNext)
    (tRet (tC (.int 0))))
theorem map_int_get {ns : List Int} {i : Nat} {b : Int} (h : ns[i]? = some b) : (ns.map V.int)[i]? = some (.int b) := by
  rw [List.getElem?_map, h]
  rfl
theorem ints_at {ns : List Int} {i : Int} (h0 : 0 ≤ i) (h1 : i < ns.length) : ∃ b, ns[i.toNat]? = some b ∧ atI (ns.map V.int) i = some (.int b) := by
  obtain ⟨b, hb⟩ := getn (l := ns) (i := i.toNat) (by omega)
  exact ⟨b, hb, at_of (j := i.toNat) (by omega) (map_int_get hb)⟩
theorem pure_law_cell_at {K : PySem.W.Frag} {vs : List V} {H : Hp} {Q : VK} {E : XK} (h : sp_law_cell_at K vs H Q E) : t_law_cell_at K (Fin Q) (start ["_law_script", "_law_k"] vs) H := by
  obtain ⟨a, ns, k, rfl, ha, k0, q⟩ := h
  refine ⟨_, rfl, _, rfl, _, _, rfl, .inl ha, _, _, rfl, rfl, _, rfl, ?_⟩
  refine ite2 (fun c => ?_) (fun _ => q 0)
  have c := of_decide_eq_true c
  rw [List.length_map] at c
  obtain ⟨b, hb, hb2⟩ := ints_at k0 c
  exact ⟨_, rfl, _, rfl, _, _, _, _, rfl, rfl, ha, hb2, q b⟩
def sp_law_numbers (K : PySem.W.Frag) : Sp := fun vs H Q _ => ∃ (c s : Int) (a : Addr) (ss : List Int), vs = [.int c, .int s, .ref a] ∧ H a = some (.lst (ss.map V.int)) ∧ SzOk ss ∧ ss.length ≤ 10000 ∧
  ∀ ds p H', Digs ss ds → H p = none → Same H H' → H' p = some (.lst (ds.map V.int)) → Q (.ref p) H'
def t_law_numbers (K : PySem.W.Frag) : TS := (tSeq (tAsg (tCB rMax2 (tCons (tVar 0) (tCons (tOp rSub (tUn rNeg (tC (.int 1))) (tVar 0)) tNil))) (gName 3))
    (tSeq (tAsg (tVar 3) (gName 4))
    (tSeq (tAsg (tLstG tNil) (gName 5))
    (tSeq (tFor (iRng1 (tCons (tCB (rLenSq K) (tCons (tVar 2) tNil)) tNil)) (gName 6) (tIfS (tAnd (tTest (tOp rGe (tVar 3) (tOp rPow (tC (.int 10)) (tC (.int 18))))) (tTest (tOp rGt (tVar 4) (tC (.int 0))))) (tSeq (tDrop (tBM K "list" rAppend (tVar 5) (tCons (tOp rMod (tVar 4) (tOp (rIxL K) (tVar 2) (tVar 6))) tNil)))
    (tAsg (tOp rDiv (tVar 4) (tOp (rIxL K) (tVar 2) (tVar 6))) (gName 4))) (tSeq (tAsg (tOp rMod (tOp rAdd (tOp rAdd (tOp rAdd (tVar 3) (tOp rMul (tC (.int 7919)) (tVar 1))) (tOp rMul (tOp rMul (tC (.int 101)) (tVar 6)) (tVar 6))) (tVar 6)) (tC (.int 2147483647))) (gName 7))
    (tSeq (tAsg (tOp rMod (tOp rMul (tVar 7) (tC (.int 48271))) (tC (.int 2147483647))) (gName 7))
    (tSeq (tAsg (tOp rMod (tOp rMul (tOp rMod (tOp rMul (tVar 7) (tVar 7)) (tC (.int 2147483629))) (tC (.int 48271))) (tC (.int 2147483647))) (gName 7))
    (tDrop (tBM K "list" rAppend (tVar 5) (tCons (tOp rMod (tOp rDiv (tVar 7) (tC (.int 16))) (tOp (rIxL K) (tVar 2) (tVar 6))) tNil))))))))
    (tRet (tVar 5))))))
theorem Paired.snoc {α β : Type} {F : α → β → Prop} : ∀ {xs : List α} {ys : List β} {x : α} {y : β}, Paired F xs ys → F x y → Paired F (xs ++ [x]) (ys ++ [y])
  | _, _, _, _, .nil, h => .cons h .nil
  | _, _, _, _, .cons a t, h => .cons a (Paired.snoc t h)
theorem digs_take {ss ds : List Int} {i : Nat} {s d : Int} (h : Digs (ss.take i) ds) (hs : ss[i]? = some s) (h0 : 0 ≤ d) (h1 : d < s) : Digs (ss.take (i + 1)) (ds ++ [d]) := by
  rw [List.take_add_one, hs]
  exact Paired.snoc h ⟨h0, h1⟩
theorem app_int {H : Hp} {f : Addr} {ds : List Int} {d : Int} : upd H f (.lst (ds.map V.int ++ [V.int d])) f = some (.lst ((ds ++ [d]).map V.int)) := by
  rw [upd_same, List.map_append]
  rfl
theorem m31 : (0 : Int) < 2147483647 := by decide
theorem m29 : (0 : Int) < 2147483629 := by decide
theorem pure_law_numbers {K : PySem.W.Frag} {vs : List V} {H : Hp} {Q : VK} {E : XK} (h : sp_law_numbers K vs H Q E) : t_law_numbers K (Fin Q) (start ["_law_cell", "_law_salt", "_law_sizes", "_law_number", "_law_left", "_law_found", "_law_k", "_law_one"] vs) H := by
  obtain ⟨c, s, a, ss, rfl, ha, sz, hl, q⟩ := h
  have hsz : sizeLine = 16777216 := sizeLine_eq
  refine ⟨_, rfl, _, rfl, _, rfl, _, _, rfl, rfl, _, _, rfl, ?_⟩
  refine ⟨_, rfl, ?_⟩
  refine ⟨Nat.zero_le _, fun f H1 nf s1 hf => ?_⟩
  have ha1 := s1 _ _ ha
  generalize (if (-1 - c) > c then (-1 - c) else c) = num
  refine ⟨_, rfl, _, _, rfl, .inl (sql ha1), _, rfl, by rw [List.length_map]; omega, by rw [List.length_map]; omega, ?_⟩
  refine for_range (lo := 0) (n := ((ss.map V.int).length : Int).toNat) (fun i σ H2 => ∃ (left : Int) (ds : List Int) (v6 v7 : Option V), σ = [some (.int c), some (.int s), some (.ref a), some (.int num), some (.int left), some (.ref f), v6, v7] ∧ Same H H2 ∧ H2 f = some (.lst (ds.map V.int)) ∧ Digs (ss.take i) ds)
    ⟨num, [], none, none, rfl, s1, hf, .nil⟩ ?_ ?_
  · rintro i σ H2 hi ⟨left, ds, v6, v7, rfl, s2, hf2, D⟩
    have hi' : i < ss.length := by rw [List.length_map] at hi; omega
    obtain ⟨z, hz⟩ := getn hi'
    have hzz := sz z (List.mem_of_getElem? hz)
    have ha2 := s2 _ _ ha
    have hat : atI (ss.map V.int) (0 + (i : Int)) = some (.int z) := at_of (j := i) (by omega) (map_int_get hz)
    have hdl : ds.length < sizeLine := by
      have := Paired.length D
      rw [List.length_take] at this
      omega
    refine ⟨_, rfl, _, _, rfl, rfl, ⟨by decide, by decide, by decide⟩, _, _, rfl, rfl, _, rfl, ?_⟩
    have els : tSeq (tAsg (tOp rMod (tOp rAdd (tOp rAdd (tOp rAdd (tVar 3) (tOp rMul (tC (.int 7919)) (tVar 1))) (tOp rMul (tOp rMul (tC (.int 101)) (tVar 6)) (tVar 6))) (tVar 6)) (tC (.int 2147483647))) (gName 7))
        (tSeq (tAsg (tOp rMod (tOp rMul (tVar 7) (tC (.int 48271))) (tC (.int 2147483647))) (gName 7))
        (tSeq (tAsg (tOp rMod (tOp rMul (tOp rMod (tOp rMul (tVar 7) (tVar 7)) (tC (.int 2147483629))) (tC (.int 48271))) (tC (.int 2147483647))) (gName 7))
        (tDrop (tBM K "list" rAppend (tVar 5) (tCons (tOp rMod (tOp rDiv (tVar 7) (tC (.int 16))) (tOp (rIxL K) (tVar 2) (tVar 6))) tNil)))))
        { nx := fun σ H2 => ∃ (left : Int) (ds : List Int) (v6 v7 : Option V), σ = [some (.int c), some (.int s), some (.ref a), some (.int num), some (.int left), some (.ref f), v6, v7] ∧ Same H H2 ∧ H2 f = some (.lst (ds.map V.int)) ∧ Digs (ss.take (i + 1)) ds,
          rt := Q }
        [some (.int c), some (.int s), some (.ref a), some (.int num), some (.int left), some (.ref f), some (.int (0 + (i : Int))), v7] H2 := by
      refine ⟨_, rfl, _, rfl, _, _, rfl, rfl, .inl ⟨by decide, by decide⟩, _, _, rfl, rfl, _, rfl, _, _, rfl, rfl, .inl ⟨by decide, by decide⟩, _, rfl, _, _, rfl, rfl, .inr ⟨by omega, by omega⟩, _, _, rfl, rfl, _, rfl, _, _, rfl, rfl, _, _, rfl, rfl, m31, ?_⟩
      refine ⟨_, rfl, _, _, rfl, rfl, .inr ⟨by decide, by decide⟩, _, _, rfl, rfl, m31, ?_⟩
      refine ⟨_, rfl, _, rfl, _, _, rfl, rfl, .inl ⟨by omega, by omega⟩, _, _, rfl, rfl, m29, _, _, rfl, rfl, .inr ⟨by decide, by decide⟩, _, _, rfl, rfl, m31, ?_⟩
      refine ⟨_, rfl, tyl hf2, _, rfl, _, _, rfl, rfl, ⟨by decide, by decide⟩, _, rfl, _, rfl, _, _, _, _, rfl, rfl, sql ha2, hat, _, _, rfl, rfl, by show 0 < z; omega, f, _, _, rfl, rfl, hf2, by rw [List.length_map]; exact hdl, ?_⟩
      refine ⟨left, ds ++ [_], _, _, rfl, same_mut s2 nf, app_int, digs_take D hz (Int.emod_nonneg _ (by omega)) (Int.emod_lt_of_pos _ (by omega))⟩
    refine ite2 (fun _ => ?_) (fun _ => els)
    refine ⟨_, rfl, _, _, rfl, rfl, _, rfl, ite2 (fun _ => ?_) (fun _ => els)⟩
    refine ⟨_, rfl, tyl hf2, _, rfl, _, rfl, _, rfl, _, _, _, _, rfl, rfl, sql ha2, hat, _, _, rfl, rfl, by show 0 < z; omega, f, _, _, rfl, rfl, hf2, by rw [List.length_map]; exact hdl, ?_⟩
    have ha3 : ∀ o, (upd H2 f o) a = some (.lst (ss.map V.int)) := fun o => by rw [upd_ne (ne_of_none ha nf)]; exact ha2
    refine ⟨_, rfl, _, rfl, _, rfl, _, _, _, _, rfl, rfl, sql (ha3 _), hat, _, _, rfl, rfl, ⟨by show 0 < z; omega, by show z < 1073741824; omega⟩, ?_⟩
    refine ⟨_, ds ++ [_], _, _, rfl, same_mut s2 nf, app_int, digs_take D hz (Int.emod_nonneg _ (by omega)) (Int.emod_lt_of_pos _ (by omega))⟩
  · rintro σ H2 ⟨left, ds, v6, v7, rfl, s2, hf2, D⟩
    rw [show ss.take ((ss.map V.int).length : Int).toNat = ss by rw [List.length_map, Int.toNat_natCast]; exact List.take_of_length_le (Nat.le_refl _)] at D
    exact ⟨_, rfl, q ds f H2 D nf s2 hf2⟩
/-! ### _law_web -/
/-- a way of so many steps -/
inductive Wk (R : Int → Int → Prop) : Nat → Int → Int → Prop
  | nil (x : Int) : Wk R 0 x x
  | snoc {k : Nat} {x y z : Int} : Wk R k x y → R y z → Wk R (k + 1) x z
theorem Wk.trans {R : Int → Int → Prop} {k : Nat} {x y : Int} (h : Wk R k x y) : ∀ {j : Nat} {z : Int}, Wk R j y z → Wk R (k + j) x z
  | _, _, .nil _ => h
  | _, _, .snoc a b => .snoc (Wk.trans h a) b
theorem Wk.rev {R : Int → Int → Prop} (sym : ∀ x y, R x y → R y x) : ∀ {k : Nat} {x y : Int}, Wk R k x y → Wk R k y x
  | _, _, _, .nil x => .nil x
  | _, _, _, .snoc (k := k) a b => by
    have h1 : Wk R 1 _ _ := Wk.snoc (Wk.nil _) (sym _ _ b)
    have h2 := h1.trans (a.rev sym)
    rw [Nat.add_comm] at h2
    exact h2
/-- tied by the ties -/
def Tie (ts : List (Int × Int)) (x y : Int) : Prop := tieOf x y ∈ ts
/-- a web that hangs together -/
def Conn (n : Int) (ts : List (Int × Int)) : Prop := ∀ x, 0 ≤ x → x < n → ∀ y, 0 ≤ y → y < n → ∃ k, Wk (Tie ts) k x y
theorem tieOf_comm (a b : Int) : tieOf a b = tieOf b a := by
  unfold tieOf
  refine Prod.ext ?_ ?_
  · show (if b < a then b else a) = (if a < b then a else b)
    split <;> split <;> omega
  · show (if b > a then b else a) = (if a > b then a else b)
    split <;> split <;> omega
theorem Tie.symm {ts : List (Int × Int)} {x y : Int} (h : Tie ts x y) : Tie ts y x := by
  unfold Tie
  rw [tieOf_comm]
  exact h
/-- each name but the first is tied to an earlier one -/
theorem conn_of {n : Int} {os : List Int} {ts : List (Int × Int)} (pm : os.Perm ((List.range n.toNat).map (fun k => ((k : Nat) : Int)))) (h : ∀ k : Nat, k + 1 < os.length → ∃ d x y, d ≤ k ∧ os[k + 1]? = some x ∧ os[d]? = some y ∧ tieOf x y ∈ ts) : Conn n ts := by
  have all : ∀ (m i : Nat) x r, i ≤ m → os[i]? = some x → os[0]? = some r → ∃ k, Wk (Tie ts) k r x := by
    intro m
    induction m with
    | zero =>
      intro i x r hi hx hr
      have e : i = 0 := by omega
      subst e
      rw [hx] at hr
      have e := Option.some.inj hr
      subst e
      exact ⟨0, .nil _⟩
    | succ m ih =>
      intro i x r hi hx hr
      cases i with
      | zero => exact ih 0 x r (Nat.zero_le _) hx hr
      | succ i =>
        obtain ⟨d, x', y, hd, h1, h2, h3⟩ := h i (List.getElem?_eq_some_iff.mp hx).1
        rw [hx] at h1
        have e := Option.some.inj h1
        subst e
        obtain ⟨k, wk⟩ := ih d y r (by omega) h2 hr
        exact ⟨k + 1, .snoc wk (by unfold Tie; rw [tieOf_comm]; exact h3)⟩
  intro x x0 x1 y y0 y1
  have mem : ∀ z : Int, 0 ≤ z → z < n → z ∈ os := fun z z0 z1 => pm.mem_iff.mpr (List.mem_map.mpr ⟨z.toNat, by rw [List.mem_range]; omega, by omega⟩)
  obtain ⟨i, hi, ei⟩ := List.mem_iff_getElem.mp (mem x x0 x1)
  obtain ⟨j, hj, ej⟩ := List.mem_iff_getElem.mp (mem y y0 y1)
  obtain ⟨r, hr⟩ := getn (l := os) (i := 0) (by omega)
  obtain ⟨k1, w1⟩ := all i i x r (Nat.le_refl _) (List.getElem?_eq_some_iff.mpr ⟨hi, ei⟩) hr
  obtain ⟨k2, w2⟩ := all j j y r (Nat.le_refl _) (List.getElem?_eq_some_iff.mpr ⟨hj, ej⟩) hr
  exact ⟨k1 + k2, (w1.rev (fun _ _ h => Tie.symm h)).trans w2⟩
theorem paired_fwd {α β : Type} {F : α → β → Prop} : ∀ {xs : List α} {ys : List β}, Paired F xs ys → ∀ {i : Nat} {x : α}, xs[i]? = some x → ∃ y, ys[i]? = some y ∧ F x y := paired_get
theorem Prs.upd {H : Hp} {a : Addr} {ys zs : List V} (ha : H a = some (.lst ys)) {xs : List V} {ts : List (Int × Int)} (h : Paired (Pr H) xs ts) : Paired (Pr (upd H a (.lst zs))) xs ts :=
  Paired.mapP h fun _ _ ⟨b, e, hb⟩ => ⟨b, e, by rw [upd_ne (ne_of hb ha (by intro z; cases z))]; exact hb⟩
theorem Prs.updT {H : Hp} {a : Addr} {ys zs : List (List L2.Key × V)} (ha : H a = some (.dT ys)) {xs : List V} {ts : List (Int × Int)} (h : Paired (Pr H) xs ts) : Paired (Pr (L2.upd H a (.dT zs))) xs ts :=
  Paired.mapP h fun _ _ ⟨b, e, hb⟩ => ⟨b, e, by rw [upd_ne (ne_of hb ha (by intro z; cases z))]; exact hb⟩
theorem rep_flat (k : Nat) (z : Int) : (List.replicate k [V.int z]).flatten = (List.replicate k z).map V.int := by
  induction k with
  | zero => rfl
  | succ k ih => rw [List.replicate_succ, List.flatten_cons, ih, List.replicate_succ]; rfl
def szs (most more n : Int) : List Int := (([most, more + 1] ++ (List.range (n - 1).toNat).map (fun k => ((k : Nat) : Int) + 1)) ++ (List.range n.toNat).map (fun k => n - ((k : Nat) : Int))) ++ List.replicate more.toNat (n * n)
theorem szs_len {most more n : Int} (h : 1 ≤ n) : (szs most more n).length = 2 * n.toNat + 1 + more.toNat := by
  unfold szs
  simp
  omega
theorem range_map_get {f : Nat → Int} {n k : Nat} (h : k < n) : ((List.range n).map f)[k]? = some (f k) := by
  rw [List.getElem?_map, List.getElem?_eq_getElem (by simpa using h)]
  simp
theorem szs_1 {most more n : Int} (h : 1 ≤ n) : (szs most more n)[1]? = some (more + 1) := by
  unfold szs
  rw [List.getElem?_append_left (by simp <;> omega), List.getElem?_append_left (by simp <;> omega), List.getElem?_append_left (by simp)]
  rfl
theorem szs_2 {most more n : Int} (h : 1 ≤ n) {k : Nat} (hk : (k : Int) < n - 1) : (szs most more n)[2 + k]? = some ((k : Int) + 1) := by
  unfold szs
  rw [List.getElem?_append_left (by simp; omega), List.getElem?_append_left (by simp; omega), List.getElem?_append_right (by simp), show 2 + k - [most, more + 1].length = k by simp]
  exact range_map_get (by omega)
theorem szs_3 {most more n : Int} (h : 1 ≤ n) {k : Nat} (hk : (k : Int) < n) : (szs most more n)[n.toNat + 1 + k]? = some (n - (k : Int)) := by
  unfold szs
  have hl : ([most, more + 1] ++ (List.range (n - 1).toNat).map (fun k => ((k : Nat) : Int) + 1)).length = n.toNat + 1 := by simp; omega
  rw [List.getElem?_append_left (by rw [List.length_append, hl]; simp; omega), List.getElem?_append_right (by rw [hl]; omega), hl, show n.toNat + 1 + k - (n.toNat + 1) = k by omega]
  exact range_map_get (by omega)
theorem szs_4 {most more n : Int} (h : 1 ≤ n) {k : Nat} (hk : (k : Int) < more) : (szs most more n)[2 * n.toNat + 1 + k]? = some (n * n) := by
  unfold szs
  have hl : (([most, more + 1] ++ (List.range (n - 1).toNat).map (fun k => ((k : Nat) : Int) + 1)) ++ (List.range n.toNat).map (fun k => n - ((k : Nat) : Int))).length = 2 * n.toNat + 1 := by simp; omega
  rw [List.getElem?_append_right (by rw [hl]; omega), hl, show 2 * n.toNat + 1 + k - (2 * n.toNat + 1) = k by omega, List.getElem?_replicate, if_pos (by omega)]
theorem szs_ok {most more n : Int} (h1 : 1 ≤ n) (h2 : n ≤ 40) (h3 : 1 ≤ most) (h4 : most ≤ 40) (h5 : 0 ≤ more) (h6 : more ≤ 120) : SzOk (szs most more n) := by
  intro s hs
  have hnn : n * n ≤ 1600 := Int.le_trans (Int.mul_le_mul h2 h2 (by omega) (by omega)) (by decide)
  have hn1 : 1 ≤ n * n := Int.le_trans (by decide : (1 : Int) ≤ 1 * 1) (Int.mul_le_mul h1 h1 (by omega) (by omega))
  unfold szs at hs
  rcases List.mem_append.mp hs with hs | hs
  · rcases List.mem_append.mp hs with hs | hs
    · rcases List.mem_append.mp hs with hs | hs
      · simp at hs
        omega
      · obtain ⟨k, hk, rfl⟩ := List.mem_map.mp hs
        rw [List.mem_range] at hk
        omega
    · obtain ⟨k, hk, rfl⟩ := List.mem_map.mp hs
      rw [List.mem_range] at hk
      omega
  · have e := List.eq_of_mem_replicate hs
    omega
/-- names in an order -/
structure OrdOk (n : Int) (os : List Int) : Prop where
  len : os.length = n.toNat
  nd : os.Nodup
  mem : ∀ x ∈ os, 0 ≤ x ∧ x < n
theorem OrdOk.get {n : Int} {os : List Int} (h : OrdOk n os) {i : Int} (h0 : 0 ≤ i) (h1 : i < n) : ∃ x, os[i.toNat]? = some x ∧ atI (os.map V.int) i = some (.int x) ∧ 0 ≤ x ∧ x < n := by
  have hl := h.len
  obtain ⟨x, e1, e2⟩ := ints_at (ns := os) h0 (by omega)
  exact ⟨x, e1, e2, h.mem x (List.mem_of_getElem? e1)⟩
def insT (ts : List (Int × Int)) (t : Int × Int) : List (Int × Int) := if t ∈ ts then ts else ts ++ [t]
theorem find_tdict (ts : List (Int × Int)) (t : Int × Int) : valV (tdict ts) (keyT t) = if t ∈ ts then some (V.bl true) else none := by
  induction ts with
  | nil => rfl
  | cons u ts ih =>
    have e : tdict (u :: ts) = (keyT u, V.bl true) :: tdict ts := rfl
    rw [e]
    unfold valV at ih ⊢
    rw [List.find?_cons]
    by_cases h : u = t
    · subst h
      simp
    · have hk : ¬ keyT u = keyT t := fun q => by
        have e1 := (List.cons.inj q).1
        have e2 := (List.cons.inj (List.cons.inj q).2).1
        exact h (Prod.ext (Sum.inl.inj e1) (Sum.inl.inj e2))
      have h' : ¬ t = u := fun q => h q.symm
      simp only [hk, decide_false, List.mem_cons, h', false_or]
      exact ih
theorem put_tdict (ts : List (Int × Int)) (t : Int × Int) : putK (tdict ts) (keyT t) (V.bl true) = tdict (insT ts t) := by
  unfold insT
  by_cases h : t ∈ ts
  · rw [if_pos h]
    have e := find_tdict ts t
    rw [if_pos h] at e
    unfold putK
    unfold tdict
    rw [if_pos]
    · rw [List.map_map]
      refine List.map_congr_left fun u hu => ?_
      show (if keyT u = keyT t then (keyT u, V.bl true) else (keyT u, V.bl true)) = _
      split <;> rfl
    · rw [List.any_eq_true]
      exact ⟨(keyT t, V.bl true), List.mem_map.mpr ⟨t, h, rfl⟩, by simp⟩
  · rw [if_neg h]
    have e := find_tdict ts t
    rw [if_neg h] at e
    rw [putK_new _ e]
    unfold tdict
    rw [List.map_append]
    rfl
theorem insT_len (ts : List (Int × Int)) (t : Int × Int) : (insT ts t).length ≤ ts.length + 1 := by
  unfold insT
  split
  · omega
  · simp
/-- ties told so far -/
structure TOk (n : Int) (ts : List (Int × Int)) : Prop where
  nd : ts.Nodup
  good : ∀ t ∈ ts, 0 ≤ t.1 ∧ t.1 < t.2 ∧ t.2 < n
theorem TOk.ins {n : Int} {ts : List (Int × Int)} {t : Int × Int} (h : TOk n ts) (g : 0 ≤ t.1 ∧ t.1 < t.2 ∧ t.2 < n) : TOk n (insT ts t) := by
  unfold insT
  by_cases m : t ∈ ts
  · rw [if_pos m]
    exact h
  · rw [if_neg m]
    refine ⟨List.nodup_append.mpr ⟨h.nd, by simp, fun a ha b hb e => ?_⟩, fun u hu => ?_⟩
    · have e2 : b = t := by simpa using hb
      subst e2
      subst e
      exact m ha
    · rcases List.mem_append.mp hu with hu | hu
      · exact h.good u hu
      · have e2 : u = t := by simpa using hu
        subst e2
        exact g
theorem TOk.srt {n : Int} {ts : List (Int × Int)} (h : TOk n ts) (h1 : 1 ≤ n) (h2 : n ≤ 40) (h3 : ts.length ≤ 120) : WebOk n (srt ts) := by
  have pm := srt_perm ts
  refine ⟨h1, h2, by rw [pm.length_eq]; exact h3, fun t ht => h.good t (pm.mem_iff.mp ht), ?_⟩
  have nd : (G39.srt ts).Nodup := pm.nodup_iff.mpr h.nd
  have so := srt_sorted ts
  refine (List.pairwise_iff_getElem.mpr fun i j hi hj hij => ?_)
  have a := List.pairwise_iff_getElem.mp so i j hi hj hij
  have b : (G39.srt ts)[i] ≠ (G39.srt ts)[j] := fun e => by
    have := (List.getElem_inj nd).mp e
    omega
  rw [leT_iff] at a
  unfold ltT
  rcases a with a | ⟨a, c⟩
  · exact .inl a
  · refine .inr ⟨a, ?_⟩
    rcases Int.lt_or_eq_of_le c with c | c
    · exact c
    · exact absurd (Prod.ext a c) b
theorem tieOf_ok {n x y : Int} (hx : 0 ≤ x ∧ x < n) (hy : 0 ≤ y ∧ y < n) (ne : x ≠ y) : 0 ≤ (tieOf x y).1 ∧ (tieOf x y).1 < (tieOf x y).2 ∧ (tieOf x y).2 < n := by
  unfold tieOf
  simp only
  split <;> split <;> omega
def sp_law_web (K : PySem.W.Frag) : Sp := fun vs H Q _ => ∃ (c s most more : Int), vs = [.int c, .int s, .int most, .int more] ∧ 1 ≤ most ∧ most ≤ 40 ∧ 0 ≤ more ∧ most - 1 + more ≤ 120 ∧
  ∀ (n : Int) (ts : List (Int × Int)) (p a : Addr) (xs : List V) (H' : Hp), WebOk n ts → n ≤ most → Conn n ts → Same H H' → H p = none → H a = none → H' p = some (.tup [.int n, .ref a]) → H' a = some (.lst xs) → Paired (Pr H') xs ts → Q (.ref p) H'
def t_law_web (K : PySem.W.Frag) : TS := (tSeq (tAsg (tOp rAdd (tC (.int 1)) (tOp (rIxL K) (tCall (sp_law_numbers K) [] E0 (tCons (tVar 0) (tCons (tVar 1) (tCons (tLstG (tCons (tVar 2) tNil)) tNil)))) (tC (.int 0)))) (gName 4))
    (tSeq (tAsg (tOp rCatG (tOp rCatG (tLstG (tCons (tVar 2) (tCons (tOp rAdd (tVar 3) (tC (.int 1))) tNil))) (tLc (iRng1 (tCons (tOp rSub (tVar 4) (tC (.int 1))) tNil)) (gName 6) tYes (tOp rAdd (tVar 6) (tC (.int 1))) [6])) (tLc (iRng1 (tCons (tVar 4) tNil)) (gName 6) tYes (tOp rSub (tVar 4) (tVar 6)) [6])) (gName 5))
    (tSeq (tAsg (tCall (sp_law_numbers K) [] E0 (tCons (tVar 0) (tCons (tVar 1) (tCons (tOp rCatG (tVar 5) (tOp rRepG (tLstG (tCons (tOp rMul (tVar 4) (tVar 4)) tNil)) (tVar 3))) tNil)))) (gName 7))
    (tSeq (tAsg (tLstRgG (tRg1 (tVar 4))) (gName 8))
    (tSeq (tAsg (tLstG tNil) (gName 9))
    (tSeq (tFor (iRng1 (tCons (tVar 4) tNil)) (gName 6) (tDrop (tBM K "list" rAppend (tVar 9) (tCons (tBM K "list" rPopAt (tVar 8) (tCons (tOp (rIxL K) (tVar 7) (tOp rAdd (tOp rAdd (tVar 4) (tC (.int 1))) (tVar 6))) tNil)) tNil))))
    (tSeq (tAsg (tLc (iRng1 (tCons (tOp rSub (tVar 4) (tC (.int 1))) tNil)) (gName 6) tYes (tTupG (tCons (tOp rAdd (tVar 6) (tC (.int 1))) (tCons (tOp (rIxL K) (tVar 7) (tOp rAdd (tC (.int 2)) (tVar 6))) tNil))) [6]) (gName 10))
    (tSeq (tFor (iList K (tSl (rSlLG K) (tVar 7) (tPart (tOp rAdd (tOp rMul (tC (.int 2)) (tVar 4)) (tC (.int 1)))) (tPart (tOp rAdd (tOp rAdd (tOp rMul (tC (.int 2)) (tVar 4)) (tC (.int 1))) (tOp (rIxL K) (tVar 7) (tC (.int 1))))))) (gName 11) (tDrop (tBM K "list" rAppend (tVar 10) (tCons (tTupG (tCons (tOp rDiv (tVar 11) (tVar 4)) (tCons (tOp rMod (tVar 11) (tVar 4)) tNil))) tNil))))
    (tSeq (tAsg tDNewTG (gName 12))
    (tSeq (tFor (iList K (tVar 10)) (gTup K 2 (gCons (gName 13) (gCons (gName 14) gNil))) (tIfS (tTest (tOp rNe (tVar 13) (tVar 14))) (sDPut (tVar 12) (tTupG (tCons (tCB rMin2 (tCons (tOp (rIxL K) (tVar 9) (tVar 13)) (tCons (tOp (rIxL K) (tVar 9) (tVar 14)) tNil))) (tCons (tCB rMax2 (tCons (tOp (rIxL K) (tVar 9) (tVar 13)) (tCons (tOp (rIxL K) (tVar 9) (tVar 14)) tNil))) tNil))) (tC (.bl true))) tNext))
    (tRet (tTupG (tCons (tVar 4) (tCons (tCB rSortedDT (tCons (tVar 12) tNil)) tNil))))))))))))))
theorem map_erase {α β : Type} (f : α → β) : ∀ (l : List α) (k : Nat), (l.map f).eraseIdx k = (l.eraseIdx k).map f
  | [], _ => rfl
  | _ :: _, 0 => rfl
  | x :: l, k + 1 => by
    show f x :: (l.map f).eraseIdx k = f x :: (l.eraseIdx k).map f
    rw [map_erase f l k]
theorem erase_perm {α : Type} : ∀ {l : List α} {k : Nat} (h : k < l.length), (l[k] :: l.eraseIdx k).Perm l
  | x :: l, 0, _ => List.Perm.refl _
  | x :: l, k + 1, h => by
    show (l[k]'(by simpa using h) :: x :: l.eraseIdx k).Perm (x :: l)
    exact (List.Perm.swap x _ _).trans (List.Perm.cons x (erase_perm (l := l) (by simpa using h)))
theorem rgV_ints (n : Int) : rgV 0 n = ((List.range n.toNat).map (fun k => ((k : Nat) : Int))).map V.int := by
  unfold rgV
  rw [List.map_map, Int.sub_zero]
  refine List.map_congr_left fun k _ => ?_
  show V.int (0 + (k : Int)) = V.int (k : Int)
  rw [Int.zero_add]
theorem range_ints_nd (m : Nat) : ((List.range m).map (fun k => ((k : Nat) : Int))).Nodup := by
  refine List.pairwise_map.mpr (List.Pairwise.imp (fun {a b} h e => h (by omega)) (List.nodup_range (n := m)))
theorem cut_ints {ds : List Int} {lo hi : Option Int} : ∃ es : List Int, cutV (ds.map V.int) lo hi = es.map V.int ∧ es = (ds.drop (HT.sIx ds.length 0 lo)).take (HT.sIx ds.length ds.length hi - HT.sIx ds.length 0 lo) := by
  refine ⟨_, ?_, rfl⟩
  unfold cutV
  rw [List.length_map, List.map_take, List.map_drop]
theorem pure_law_web {K : PySem.W.Frag} {vs : List V} {H : Hp} {Q : VK} {E : XK} (h : sp_law_web K vs H Q E) :
    t_law_web K (Fin Q) (start ["_law_cell", "_law_salt", "_law_most", "_law_more", "_law_many", "_law_sizes", "_law_k", "_law_digits", "_law_names", "_law_order", "_law_pairs", "_law_digit", "_law_ties", "_law_one", "_law_other"] vs) H := by
  obtain ⟨c, s, most, more, rfl, m1, m2, m3, m4, q⟩ := h
  have hsz : sizeLine = 16777216 := sizeLine_eq
  -- many
  refine ⟨_, rfl, _, rfl, _, rfl, by show 1 ≤ sizeLine; omega, fun l0 H1 nl0 s1 hl0 => ?_⟩
  refine ⟨c, s, l0, [most], rfl, hl0, fun z hz => ?_, by show 1 ≤ 10000; decide, fun ds0 d0 H2 D0 nd0 s2 hd0 => ?_⟩
  · have e : z = most := by simpa using hz
    omega
  obtain ⟨e0, g0, g1, g2⟩ := paired_fwd D0 (i := 0) rfl
  refine ⟨_, _, _, _, rfl, rfl, sql hd0, atI_nat (j := 0) (map_int_get g0), _, _, rfl, rfl, ?_⟩
  have s12 := s1.trans s2
  obtain ⟨n, hn⟩ : ∃ n : Int, n = 1 + e0 := ⟨_, rfl⟩
  show tSeq _ _ _ (List.set _ 4 (some (V.int (1 + e0)))) H2
  rw [← hn]
  have n1 : 1 ≤ n := by omega
  have n2 : n ≤ most := by omega
  clear hd0 g0 D0 hl0 hn
  -- sizes
  refine ⟨_, rfl, _, rfl, _, _, rfl, rfl, by show 2 ≤ sizeLine; omega, fun l1 H3 nl1 s3 hl1 => ?_⟩
  refine ⟨_, rfl, _, _, rfl, rfl, n - 1, rfl, by omega, by omega, fun D1 nD1 => ?_⟩
  refine lc_ints walk_range nD1 (fun k => ((k : Nat) : Int) + 1) (by omega) (fun _ _ => trivial) (fun i x Ha Hb Nx Ny hi sa y hN => ?_) (fun H4 s4 hD1 => ?_)
  · obtain ⟨rfl, rfl⟩ := y
    refine ⟨rfl, _, rfl, _, _, rfl, rfl, ?_⟩
    have := hN Hb (Same.refl _)
    show Nx (V.int (0 + (i : Int) + 1)) Hb
    rw [show (0 : Int) + (i : Int) + 1 = (i : Int) + 1 by omega]
    exact this
  refine ⟨l1, D1, _, _, rfl, rfl, s4 _ _ hl1, hD1, ?_, fun l2 H5 nl2 s5 hl2 => ?_⟩
  · rw [List.length_map, List.length_map, List.length_range]
    show 2 + _ ≤ _
    omega
  refine ⟨_, rfl, n, rfl, by omega, by omega, fun D2 nD2 => ?_⟩
  refine lc_ints walk_range nD2 (fun k => n - ((k : Nat) : Int)) (by omega) (fun _ _ => trivial) (fun i x Ha Hb Nx Ny hi sa y hN => ?_) (fun H6 s6 hD2 => ?_)
  · obtain ⟨rfl, rfl⟩ := y
    refine ⟨rfl, _, rfl, _, rfl, _, _, rfl, rfl, ?_⟩
    have := hN Hb (Same.refl _)
    show Nx (V.int (n - (0 + (i : Int)))) Hb
    rw [show n - (0 + (i : Int)) = n - (i : Int) by omega]
    exact this
  refine ⟨l2, D2, _, _, rfl, rfl, s6 _ _ hl2, hD2, ?_, fun l3 H7 nl3 s7 hl3 => ?_⟩
  · simp
    omega
  -- digits
  refine ⟨_, rfl, _, rfl, _, rfl, _, rfl, _, rfl, _, _, rfl, rfl, .inl ⟨by omega, by omega⟩, by show 1 ≤ sizeLine; omega, fun l4 H8 nl4 s8 hl4 => ?_⟩
  refine ⟨_, rfl, l4, more, _, rfl, rfl, hl4, by omega, by omega, by show 1 * more.toNat ≤ sizeLine; omega, fun l5 H9 nl5 s9 hl5 => ?_⟩
  refine ⟨l3, l5, _, _, rfl, rfl, s9 _ _ (s8 _ _ hl3), hl5, ?_, fun l6 H10 nl6 s10 hl6 => ?_⟩
  · rw [rep_flat]
    simp
    omega
  have e6 : H10 l6 = some (.lst ((szs most more n).map V.int)) := by
    rw [hl6, rep_flat]
    unfold szs
    rw [List.map_append, List.map_append, List.map_append]
    rfl
  refine ⟨c, s, l6, szs most more n, rfl, e6, szs_ok n1 (by omega) m1 m2 m3 (by omega), by rw [szs_len n1]; omega, fun ds dg H11 D ndg s11 hdg => ?_⟩
  have sA : Same H H11 := s12.trans (s3.trans (s4.trans (s5.trans (s6.trans (s7.trans (s8.trans (s9.trans (s10.trans s11))))))))
  clear hl1 hD1 hl2 hD2 hl3 hl4 hl5 hl6 e6
  have dl : ds.length = 2 * n.toNat + 1 + more.toNat := by rw [← Paired.length D, szs_len n1]
  -- names, order
  refine ⟨_, rfl, n, rfl, RgOk.of_le (by omega) (by omega) (by omega) (by omega), fun nm H12 nnm s12' hnm => ?_⟩
  refine ⟨Nat.zero_le _, fun od H13 nod s13 hod => ?_⟩
  have nodnm : od ≠ nm := fun e => by
    rw [e, hnm] at nod
    cases nod
  refine ⟨_, rfl, n, rfl, by omega, by omega, ?_⟩
  refine for_range (lo := 0) (n := n.toNat) (fun i σ H2 => ∃ (nms os : List Int) (v6 : Option V), σ = [some (.int c), some (.int s), some (.int most), some (.int more), some (.int n), some (.ref l3), v6, some (.ref dg), some (.ref nm), some (.ref od), none, none, none, none, none] ∧
      Same H11 H2 ∧ H2 nm = some (.lst (nms.map V.int)) ∧ H2 od = some (.lst (os.map V.int)) ∧ nms.length + i = n.toNat ∧ os.length = i ∧ (os ++ nms).Perm ((List.range n.toNat).map (fun k => ((k : Nat) : Int))))
    ⟨_, [], none, rfl, s12'.trans s13, (by rw [← rgV_ints]; exact s13 _ _ hnm), hod, by simp, rfl, by simp⟩ ?_ ?_
  · rintro i σ H2 hi ⟨nms, os, v6, rfl, t2, hn2, ho2, el, eo, pm⟩
    obtain ⟨d, gd, d0', d1'⟩ := paired_fwd D (szs_3 (most := most) (more := more) n1 (k := i) (by omega))
    have hat : atI (ds.map V.int) (n + 1 + (0 + (i : Int))) = some (.int d) := at_of (j := n.toNat + 1 + i) (by omega) (map_int_get gd)
    obtain ⟨y, gy⟩ := getn (l := nms) (i := d.toNat) (by omega)
    refine ⟨_, rfl, tyl ho2, _, rfl, tyl hn2, _, rfl, _, rfl, _, _, rfl, rfl, _, rfl, _, _, rfl, rfl, _, _, _, _, rfl, rfl, sql (t2 _ _ hdg), hat, nm, _, d, d.toNat, _, rfl, rfl, hn2, by omega, by omega, ?_, map_int_get gy, ?_⟩
    · rw [List.length_map]
      exact (ixN_seq (n := nms.length) (i := d) (by unfold ixN; rw [if_pos (by omega), if_pos (by omega)])).1
    · have ho3 : ∀ o, (upd H2 nm o) od = some (.lst (os.map V.int)) := fun o => by rw [upd_ne nodnm]; exact ho2
      refine ⟨od, _, _, rfl, rfl, ho3 _, by rw [List.length_map]; omega, nms.eraseIdx d.toNat, os ++ [y], _, rfl, same_mut (same_mut t2 nnm) (s12'.free nod), ?_, app_int, ?_, ?_, ?_⟩
      · rw [upd_ne nodnm.symm, upd_same, map_erase]
      · have := List.length_eraseIdx_of_lt (l := nms) (i := d.toNat) (by omega)
        omega
      · rw [List.length_append]
        show os.length + 1 = i + 1
        omega
      · obtain ⟨hlt, ey⟩ := List.getElem?_eq_some_iff.mp gy
        have p2 := erase_perm hlt
        rw [ey] at p2
        rw [List.append_assoc]
        exact (List.Perm.append_left os p2).trans pm
  rintro σ H14 ⟨nms, os, v6, rfl, t14, hnm14, hod14, el, eo, pm⟩
  have enm : nms = [] := List.length_eq_zero_iff.mp (by omega)
  subst enm
  rw [List.append_nil] at pm
  have OO : OrdOk n os := ⟨eo, pm.nodup_iff.mpr (range_ints_nd _), fun x hx => by
    obtain ⟨k, hk, rfl⟩ := List.mem_map.mp (pm.mem_iff.mp hx)
    rw [List.mem_range] at hk
    omega⟩
  have hdg14 := t14 _ _ hdg
  clear hnm14 hnm hod
  -- pairs
  refine ⟨_, rfl, _, _, rfl, rfl, n - 1, rfl, by omega, by omega, fun pr npr => ?_⟩
  refine lc_objs walk_range npr (fun k => .tup [.int (((k : Nat) : Int) + 1), .int (ds.getD (2 + k) 0)]) (by omega) (fun _ _ => trivial) (fun i x Ha Hb Nx Ny hi sa y hN => ?_) (fun H15 bs s15 hpr hbl hbn hbs => ?_)
  · obtain ⟨rfl, rfl⟩ := y
    obtain ⟨d, gd, d0', d1'⟩ := paired_fwd D (szs_2 (most := most) (more := more) n1 (k := i) (by omega))
    have hat : atI (ds.map V.int) (2 + (0 + (i : Int))) = some (.int d) := at_of (j := 2 + i) (by omega) (map_int_get gd)
    refine ⟨rfl, _, rfl, _, _, rfl, rfl, _, rfl, _, rfl, _, _, rfl, rfl, _, _, _, _, rfl, rfl, sql (sa _ _ hdg14), hat, by show 2 ≤ sizeLine; omega, fun b H5 nb s5 h5 => hN b H5 nb s5 ?_⟩
    rw [h5, List.getD_eq_getElem?_getD, gd]
    show some (HO.tup [V.int (0 + (i : Int) + 1), V.int d]) = some (HO.tup [V.int ((i : Int) + 1), V.int d])
    rw [show (0 : Int) + (i : Int) + 1 = (i : Int) + 1 by omega]
  have hP15 : ∃ ps : List (Int × Int), Paired (Pr H15) (bs.map V.ref) ps ∧ (∀ t ∈ ps, (0 ≤ t.1 ∧ t.1 < n) ∧ 0 ≤ t.2 ∧ t.2 < n) ∧ ∀ k : Nat, (k : Int) < n - 1 → ∃ d : Int, ps[k]? = some ((k : Int) + 1, d) ∧ 0 ≤ d ∧ d < (k : Int) + 1 := by
    refine ⟨bs.zipIdx.map fun b => ((b.2 : Int) + 1, ds.getD (2 + b.2) 0), ?_, fun t ht => ?_, fun k hk => ?_⟩
    · have aux : ∀ (cs : List Addr) (j : Nat), (∀ (i : Nat) b, cs[i]? = some b → H15 b = some (.tup [.int (((j + i : Nat) : Int) + 1), .int (ds.getD (2 + (j + i)) 0)])) → Paired (Pr H15) (cs.map V.ref) ((cs.zipIdx j).map fun b => ((b.2 : Int) + 1, ds.getD (2 + b.2) 0)) := by
        intro cs
        induction cs with
        | nil => intro j _; exact .nil
        | cons b cs ih =>
          intro j hj
          refine .cons ⟨b, rfl, hj 0 b rfl⟩ (ih (j + 1) fun i b' e => ?_)
          have := hj (i + 1) b' e
          rw [show j + 1 + i = j + (i + 1) by omega]
          exact this
      refine aux bs 0 fun i b e => ?_
      rw [Nat.zero_add]
      exact (hbs i b e).1
    · obtain ⟨⟨b, k⟩, hk, rfl⟩ := List.mem_map.mp ht
      have hk2 := List.snd_lt_of_mem_zipIdx hk
      obtain ⟨d, gd, d0', d1'⟩ := paired_fwd D (szs_2 (most := most) (more := more) n1 (k := k) (by simp at hk2; omega))
      simp only
      rw [List.getD_eq_getElem?_getD, gd]
      simp at hk2
      refine ⟨by omega, ?_⟩
      show 0 ≤ d ∧ d < n
      omega
    · obtain ⟨d, gd, d0', d1'⟩ := paired_fwd D (szs_2 (most := most) (more := more) n1 (k := k) hk)
      refine ⟨d, ?_, d0', d1'⟩
      rw [List.getElem?_map, List.getElem?_zipIdx, List.getElem?_eq_getElem (by omega)]
      show some ((((0 + k : Nat) : Int) + 1, ds.getD (2 + (0 + k)) 0) : Int × Int) = _
      rw [Nat.zero_add, List.getD_eq_getElem?_getD, gd]
      rfl
  obtain ⟨ps1, hPs1, hps1, hps1k⟩ := hP15
  have hps1l : ps1.length = (n - 1).toNat := by
    rw [← Paired.length hPs1, List.length_map]
    exact hbl
  have hdg15 := s15 _ _ hdg14
  obtain ⟨dm, gdm, dm0, dm1⟩ := paired_fwd D (szs_1 (most := most) (more := more) n1)
  -- the slice
  refine ⟨_, rfl, _, rfl, _, _, rfl, rfl, .inl ⟨by decide, by decide⟩, _, _, rfl, rfl, _, rfl, _, rfl, _, _, rfl, rfl, .inl ⟨by decide, by decide⟩, _, _, rfl, rfl, _, rfl, _, _, _, _, rfl, rfl, sql hdg15, atI_nat (j := 1) (map_int_get gdm), _, _, rfl, rfl, _, rfl, dg, _, rfl, sql hdg15, fun sl H16 nsl s16 hsl => ?_⟩
  obtain ⟨es, ees, ees2⟩ := cut_ints (ds := ds) (lo := some (2 * n + 1)) (hi := some (2 * n + 1 + dm))
  rw [show cutV (ds.map V.int) (some (2 * n + 1)) (some (2 * n + 1 + dm)) = es.map V.int from ees] at hsl
  have el1 : HT.sIx ds.length 0 (some (2 * n + 1)) = 2 * n.toNat + 1 := by
    rw [show (2 * n + 1 : Int) = ((2 * n.toNat + 1 : Nat) : Int) by omega, HT.sIx_nat]
    omega
  have esb : es.length ≤ more.toNat := by
    rw [ees2, el1, List.length_take, List.length_drop]
    omega
  have esg : ∀ (j : Nat) d, es[j]? = some d → 0 ≤ d ∧ d < n * n := fun j d e => by
    have hj : j < es.length := (List.getElem?_eq_some_iff.mp e).1
    rw [ees2, el1, List.getElem?_take] at e
    split at e
    · rw [List.getElem?_drop] at e
      obtain ⟨d', gd', x1, x2⟩ := paired_fwd D (szs_4 (most := most) (more := more) n1 (k := j) (by omega))
      rw [gd'] at e
      have : d' = d := Option.some.inj e
      subst this
      exact ⟨x1, x2⟩
    · cases e
  clear ees ees2
  have nslpr : sl ≠ pr := fun e => by
    rw [e, hpr] at nsl
    cases nsl
  refine ⟨sl, rfl, ⟨_, sql hsl⟩, ?_⟩
  refine for_list (K := K) (a := sl) (xs := es.map V.int) (fun i σ H2 => ∃ (xs : List V) (ps : List (Int × Int)) (v11 : Option V), σ = [some (.int c), some (.int s), some (.int most), some (.int more), some (.int n), some (.ref l3), v6, some (.ref dg), some (.ref nm), some (.ref od), some (.ref pr), v11, none, none, none] ∧
      Same H14 H2 ∧ H2 sl = some (.lst (es.map V.int)) ∧ H2 pr = some (.lst xs) ∧ Paired (Pr H2) xs ps ∧ ps.length ≤ (n - 1).toNat + i ∧ (∀ t ∈ ps, (0 ≤ t.1 ∧ t.1 < n) ∧ 0 ≤ t.2 ∧ t.2 < n) ∧ ∀ (k : Nat) t, ps1[k]? = some t → ps[k]? = some t)
    ⟨_, ps1, none, rfl, s15.trans s16, hsl, s16 _ _ hpr, Prs.mono s16 hPs1, by omega, hps1, fun _ _ e => e⟩ (fun i σ H2 _ ⟨_, _, _, _, _, h2, _⟩ => sql h2) ?_ ?_
  · rintro i x σ H2 hi ⟨xs, ps, v11, rfl, t2, hsl2, hpr2, hP2, hpl, hpg, hpk⟩
    rw [List.getElem?_map] at hi
    cases ed : es[i]? with
    | none =>
      rw [ed] at hi
      cases hi
    | some d =>
      rw [ed] at hi
      have e2 : V.int d = x := Option.some.inj hi
      subst e2
      have hij : i < es.length := (List.getElem?_eq_some_iff.mp ed).1
      have gd := esg i d ed
      refine ⟨_, rfl, tyl hpr2, _, rfl, _, rfl, _, _, rfl, rfl, ⟨by show 0 < n; omega, by show n < 1073741824; omega⟩, _, rfl, _, rfl, _, _, rfl, rfl, by show 0 < n; omega, by show 2 ≤ sizeLine; omega, fun T H3 nT s3 hT => ?_⟩
      have hpr3 := s3 _ _ hpr2
      refine ⟨pr, _, _, rfl, rfl, hpr3, ?_, xs ++ [.ref T], ps ++ [(d / n, d % n)], _, rfl, same_mut (t2.trans s3) npr, ?_, upd_same, ?_, ?_, fun t ht => ?_, fun k t e => ?_⟩
      · rw [Paired.length hP2]
        omega
      · rw [upd_ne nslpr]
        exact s3 _ _ hsl2
      · exact Prs.upd hpr3 (Paired.snoc (Prs.mono s3 hP2) ⟨T, rfl, hT⟩)
      · rw [List.length_append]
        show ps.length + 1 ≤ _
        omega
      · rcases List.mem_append.mp ht with ht | ht
        · exact hpg t ht
        · have e3 : t = (d / n, d % n) := by simpa using ht
          subst e3
          refine ⟨⟨Int.ediv_nonneg gd.1 (by omega), Int.ediv_lt_of_lt_mul (by omega) gd.2⟩, Int.emod_nonneg _ (by omega), Int.emod_lt_of_pos _ (by omega)⟩
      · rw [List.getElem?_append_left (List.getElem?_eq_some_iff.mp (hpk k t e)).1]
        exact hpk k t e
  rintro σ H17 ⟨xs, ps, v11, rfl, t17, hsl17, hpr17, hP17, hpl, hpg, hpk⟩
  rw [List.length_map] at hpl
  have hod17 := t17 _ _ hod14
  -- the ties
  refine fun ti H18 nti s18 hti => ?_
  have hpr18 := s18 _ _ hpr17
  refine ⟨_, rfl, pr, rfl, ⟨_, sql hpr18⟩, ?_⟩
  refine for_list (K := K) (a := pr) (xs := xs) (fun i σ H2 => ∃ (ts : List (Int × Int)) (v13 v14 : Option V), σ = [some (.int c), some (.int s), some (.int most), some (.int more), some (.int n), some (.ref l3), v6, some (.ref dg), some (.ref nm), some (.ref od), some (.ref pr), v11, some (.ref ti), v13, v14] ∧
      Same H17 H2 ∧ H2 ti = some (.dT (tdict ts)) ∧ TOk n ts ∧ ts.length ≤ i ∧ ∀ (j : Nat) t, j < i → ps[j]? = some t → t.1 ≠ t.2 → ∀ x y, os[t.1.toNat]? = some x → os[t.2.toNat]? = some y → tieOf x y ∈ ts)
    ⟨[], none, none, rfl, s18, hti, ⟨List.nodup_nil, fun t ht => by simp at ht⟩, Nat.le_refl _, fun j t hj => absurd hj (by omega)⟩ (fun i σ H2 _ ⟨_, _, _, _, t2, _⟩ => sql (t2 _ _ hpr17)) ?_ ?_
  · rintro i x σ H2 hi ⟨ts, v13, v14, rfl, t2, hti2, hT, hTl, hTk⟩
    obtain ⟨t, ht, b, rfl, hb⟩ := paired_get hP17 hi
    obtain ⟨⟨g1, g2⟩, g3, g4⟩ := hpg t (List.mem_of_getElem? ht)
    have hil : i < xs.length := (List.getElem?_eq_some_iff.mp hi).1
    have hxl := Paired.length hP17
    refine ⟨b, _, rfl, sqt (t2 _ _ hb), rfl, _, _, rfl, _, _, rfl, rfl, ?_⟩
    refine ⟨_, rfl, _, rfl, rfl, _, rfl, ?_⟩
    by_cases e : t.1 = t.2
    · refine iteNS (congrArg V.int e) ?_
      refine ⟨ts, _, _, rfl, t2, hti2, hT, by omega, fun j u hj hu ne x y hx hy => ?_⟩
      by_cases ej : j = i
      · subst ej
        rw [ht] at hu
        have e2 := Option.some.inj hu
        subst e2
        exact absurd e ne
      · exact hTk j u (by omega) hu ne x y hx hy
    · rw [decide_eq_false (show ¬ V.int t.1 = V.int t.2 from fun q => e (V.int.inj q))]
      obtain ⟨x1, y1, y2, y3⟩ := OO.get g1 g2
      obtain ⟨x2, z1, z2, z3⟩ := OO.get g3 g4
      have hod2 := t2 _ _ hod17
      have ne : x1 ≠ x2 := fun q => by
        subst q
        have := nd_ix OO.nd y1 z1
        omega
      refine iteT ⟨_, rfl, _, rfl, _, rfl, _, _, _, _, rfl, rfl, sql hod2, y2, _, rfl, _, rfl, _, _, _, _, rfl, rfl, sql hod2, z2, _, _, rfl, _, rfl, _, rfl, _, _, _, _, rfl, rfl, sql hod2, y2, _, rfl, _, rfl, _, _, _, _, rfl, rfl, sql hod2, z2, _, _, rfl, by show 2 ≤ sizeLine; omega, fun T H3 nT s3 hT3 => ?_⟩
      have hti3 := s3 _ _ hti2
      refine ⟨ti, _, rfl, DPut.t (k := keyT (tieOf x1 x2)) hti3 hT3 ?_, ?_⟩
      · unfold tdict
        rw [List.length_map]
        omega
      · rw [put_tdict]
        have := insT_len ts (tieOf x1 x2)
        refine ⟨_, _, _, rfl, same_mut (t2.trans s3) nti, upd_same, hT.ins (tieOf_ok y3 z3 ne), by omega, fun j u hj hu ne' x y hx hy => ?_⟩
        by_cases ej : j = i
        · subst ej
          rw [ht] at hu
          have e2 := Option.some.inj hu
          subst e2
          rw [y1] at hx
          rw [z1] at hy
          have e3 := Option.some.inj hx
          have e4 := Option.some.inj hy
          subst e3
          subst e4
          unfold insT
          split
          · assumption
          · exact List.mem_append.mpr (.inr (by simp))
        · have := hTk j u (by omega) hu ne' x y hx hy
          unfold insT
          split
          · exact this
          · exact List.mem_append.mpr (.inl this)
  rintro σ H19 ⟨ts, v13, v14, rfl, t19, hti19, hT, hTl, hTk⟩
  have hxl := Paired.length hP17
  refine ⟨_, rfl, _, rfl, ti, ts, rfl, hti19, fun a H20 zs na s20 ha hz => ?_⟩
  refine ⟨by show 2 ≤ sizeLine; omega, fun p H21 np s21 hp => ?_⟩
  have sB : Same H H19 := sA.trans (t14.trans (t17.trans t19))
  have hconn : Conn n (srt ts) := by
    refine conn_of pm fun k hk => ?_
    have hol := OO.len
    obtain ⟨d, hd, d0, d1⟩ := hps1k k (by omega)
    obtain ⟨x, hx, _, x0, x1⟩ := OO.get (i := (k : Int) + 1) (by omega) (by omega)
    obtain ⟨y, hy, _, y0, y1⟩ := OO.get (i := d) (by omega) (by omega)
    refine ⟨d.toNat, x, y, by omega, ?_, hy, ?_⟩
    · rw [show k + 1 = ((k : Int) + 1).toNat by omega]
      exact hx
    · have := hTk k _ (by have := (List.getElem?_eq_some_iff.mp (hpk k _ hd)).1; omega) (hpk k _ hd) (by show ((k : Int) + 1) ≠ d; omega) x y hx hy
      exact (srt_perm ts).mem_iff.mpr this
  exact q n (srt ts) p a zs H21 (hT.srt n1 (by omega) (by omega)) n2 hconn (sB.trans (s20.trans s21)) (sB.free (s20.free np)) (sB.free na) hp (s21 _ _ ha) (Prs.mono s21 hz)
end G39

/-! The makers of webs, further: any web, some places. -/
namespace G39
open PySem PySem.Spec PyProof.Rows L2
theorem WebOk.sub {n : Int} {ts us : List (Int × Int)} (W : WebOk n ts) (h : us.Sublist ts) : WebOk n us :=
  ⟨W.lo, W.hi, Nat.le_trans h.length_le W.few, fun t ht => W.good t (h.subset ht), W.ord.sublist h⟩
def sp_law_any_web (K : PySem.W.Frag) : Sp := fun vs H Q _ => ∃ (a : Addr) (ns : List Int) (k s : Int), vs = [.ref a, .int k, .int s] ∧ SqL K H a (ns.map V.int) ∧ 0 ≤ k ∧
  ∀ (n : Int) (ts : List (Int × Int)) (p a : Addr) (xs : List V) (H' : Hp), WebOk n ts → Same H H' → H p = none → H a = none → H' p = some (.tup [.int n, .ref a]) → H' a = some (.lst xs) → Paired (Pr H') xs ts → Q (.ref p) H'
def t_law_any_web2 (K : PySem.W.Frag) : TS :=
    (tSeq (tAsg (tCall (sp_law_web K) [] E0 (tCons (tCall (sp_law_cell_at K) [] E0 (tCons (tVar 0) (tCons (tOp rMul (tC (.int 2)) (tVar 1)) tNil))) (tCons (tVar 2) (tCons (tVar 5) (tCons (tVar 6) tNil))))) (gTup K 2 (gCons (gName 7) (gCons (gName 8) gNil))))
    (tSeq (tAsg (tSl (rSlLG K) (tCall (sp_law_numbers K) [] E0 (tCons (tVar 3) (tCons (tOp rAdd (tVar 2) (tC (.int 1))) (tCons (tOp rCatG (tLstG (tCons (tC (.int 8)) (tCons (tC (.int 4)) tNil))) (tOp rRepG (tLstG (tCons (tC (.int 4)) tNil)) (tCB (rLenSq K) (tCons (tVar 8) tNil)))) tNil)))) (tPart (tC (.int 2))) tNoPart) (gName 9))
    (tRet (tTupG (tCons (tVar 7) (tCons (tLc (iZip K (tCons (tVar 8) (tCons (tVar 9) tNil))) (gTup K 2 (gCons (gName 10) (gCons (gName 11) gNil))) (tTest (tOp rGe (tVar 11) (tOp (rIxL K) (tVar 4) (tC (.int 1))))) (tVar 10) [10, 11]) tNil))))))
def t_law_any_web (K : PySem.W.Frag) : TS := (tSeq (tAsg (tCall (sp_law_cell_at K) [] E0 (tCons (tVar 0) (tCons (tOp rAdd (tOp rMul (tC (.int 2)) (tVar 1)) (tC (.int 1))) tNil))) (gName 3))
    (tSeq (tAsg (tCall (sp_law_numbers K) [] E0 (tCons (tVar 3) (tCons (tOp rAdd (tVar 2) (tC (.int 1))) (tCons (tLstG (tCons (tC (.int 8)) (tCons (tC (.int 4)) tNil))) tNil)))) (gName 4))
    (tSeq (tAsg (tOp (rIxL K) (tLstG (tCons (tTupG (tCons (tC (.int 12)) (tCons (tC (.int 8)) tNil))) (tCons (tTupG (tCons (tC (.int 40)) (tCons (tC (.int 81)) tNil))) tNil))) (tCB rInt1 (tCons (tAndV (tOp rEq (tOp (rIxL K) (tVar 4) (tC (.int 0))) (tC (.int 7))) (tOp rEq (tOp rMod (tVar 1) (tC (.int 4))) (tC (.int 0)))) tNil))) (gTup K 2 (gCons (gName 5) (gCons (gName 6) gNil))))
    (t_law_any_web2 K))))
theorem sub_range {α : Type} (ts : List α) (d : α) (n : Nat) (hn : n ≤ ts.length) (p : Nat → Bool) : (((List.range n).filter p).map fun i => ts.getD i d).Sublist ts := by
  have h1 : (((List.range n).filter p).map fun i => ts.getD i d).Sublist ((List.range n).map fun i => ts.getD i d) := (List.filter_sublist (p := p)).map _
  have h2 : ((List.range n).map fun i => ts.getD i d) = ts.take n := by
    apply List.ext_getElem?
    intro j
    rw [List.getElem?_map, List.getElem?_take]
    by_cases hj : j < n
    · rw [List.getElem?_range hj, if_pos hj, List.getElem?_eq_getElem (by omega)]
      show some (ts.getD j d) = _
      rw [List.getD_eq_getElem?_getD, List.getElem?_eq_getElem (by omega)]
      rfl
    · rw [if_neg hj, List.getElem?_eq_none (by simp; omega)]
      rfl
  rw [h2] at h1
  exact h1.trans (List.take_sublist n ts)
theorem prs_pick {H : Hp} {xs : List V} {ts : List (Int × Int)} (h : Paired (Pr H) xs ts) : ∀ (is : List Nat), (∀ i ∈ is, i < xs.length) → Paired (Pr H) (is.map fun i => xs.getD i .non) (is.map fun i => ts.getD i (0, 0))
  | [], _ => .nil
  | i :: is, hi => by
    have h1 := hi i List.mem_cons_self
    obtain ⟨t, ht, hp⟩ := paired_get h (List.getElem?_eq_getElem h1)
    refine .cons ?_ (prs_pick h is fun j hj => hi j (List.mem_cons_of_mem _ hj))
    show Pr H (xs.getD i .non) (ts.getD i (0, 0))
    rw [List.getD_eq_getElem?_getD, List.getD_eq_getElem?_getD, ht, List.getElem?_eq_getElem h1]
    exact hp
theorem any_web2 {K : PySem.W.Frag} {H : Hp} {Q : VK} {a hd : Addr} {ns : List Int} {k s o most more h0 h1 : Int} (ha : SqL K H a (ns.map V.int)) (k0 : 0 ≤ k) (hhd : H hd = some (.lst [.int h0, .int h1])) (m1 : 1 ≤ most) (m2 : most ≤ 40) (m3 : 0 ≤ more) (m4 : most - 1 + more ≤ 120)
    (q : ∀ (n : Int) (ts : List (Int × Int)) (p a : Addr) (xs : List V) (H' : Hp), WebOk n ts → Same H H' → H p = none → H a = none → H' p = some (.tup [.int n, .ref a]) → H' a = some (.lst xs) → Paired (Pr H') xs ts → Q (.ref p) H') :
    t_law_any_web2 K (Fin Q) [some (.ref a), some (.int k), some (.int s), some (.int o), some (.ref hd), some (.int most), some (.int more), none, none, none, none, none] H := by
  have hsz : sizeLine = 16777216 := sizeLine_eq
  refine ⟨_, rfl, _, rfl, _, _, rfl, rfl, .inl ⟨by decide, by decide⟩, a, ns, 2 * k, rfl, ha, by omega, fun c => ?_⟩
  refine ⟨_, rfl, _, rfl, _, rfl, c, s, most, more, rfl, m1, m2, m3, m4, fun n ts p b xs H1 W _ _ s1 np nb hp hb hx => ?_⟩
  have hxl := Paired.length hx
  have hfew := W.few
  refine ⟨p, _, rfl, sqt hp, rfl, _, _, rfl, _, _, rfl, rfl, ?_⟩
  refine ⟨_, rfl, _, rfl, _, _, rfl, rfl, by show 2 ≤ sizeLine; omega, fun l1 H2 nl1 s2 hl1 => ?_⟩
  refine ⟨by show 1 ≤ sizeLine; omega, fun l2 H3 nl2 s3 hl2 => ?_⟩
  have hb3 := s3 _ _ (s2 _ _ hb)
  refine ⟨_, rfl, b, xs, rfl, .inl (sql hb3), l2, _, _, rfl, rfl, hl2, by omega, by omega, by show 1 * (xs.length : Int).toNat ≤ sizeLine; omega, fun l3 H4 nl3 s4 hl3 => ?_⟩
  refine ⟨l1, l3, _, _, rfl, rfl, s4 _ _ (s3 _ _ hl1), hl3, ?_, fun l4 H5 nl4 s5 hl4 => ?_⟩
  · rw [rep_flat]
    simp
    omega
  have e4 : H5 l4 = some (.lst (([8, 4] ++ List.replicate (xs.length : Int).toNat (4 : Int)).map V.int)) := by
    rw [hl4, rep_flat, List.map_append]
    rfl
  refine ⟨o, s + 1, l4, _, rfl, e4, fun z hz => ?_, by simp; omega, fun ds d H6 D nd s6 hd => ?_⟩
  · rcases List.mem_append.mp hz with hz | hz
    · simp at hz
      omega
    · have := List.eq_of_mem_replicate hz
      omega
  have hdl : ds.length = 2 + xs.length := by
    rw [← Paired.length D]
    simp
    omega
  refine ⟨2, rfl, d, _, rfl, sql hd, fun dr H7 ndr s7 hdr => ?_⟩
  obtain ⟨es, ees, ees2⟩ := cut_ints (ds := ds) (lo := some 2) (hi := none)
  rw [ees] at hdr
  have el : es.length = xs.length := by
    rw [ees2, HT.sIx_none, show HT.sIx ds.length 0 (some 2) = min 2 ds.length from HT.sIx_nat ds.length 0 2, List.length_take, List.length_drop]
    omega
  have sB : Same H1 H7 := s2.trans (s3.trans (s4.trans (s5.trans (s6.trans s7))))
  have hb7 := sB _ _ hb
  have hhd7 := sB _ _ (s1 _ _ hhd)
  -- the zip
  refine ⟨_, rfl, _, rfl, _, rfl, b, dr, xs, es.map V.int, rfl, sql hb7, sql hdr, fun L nL => ?_⟩
  refine lc_pure (walk_zip (n := xs.length) (by rw [List.length_map, el, Nat.min_self])) nL (fun i => xs.getD i .non) (fun i => decide (h1 ≤ es.getD i 0)) (by omega) (fun H8 s8 => ⟨sql (s8 _ _ hb7), sql (s8 _ _ hdr)⟩) (fun i x H8 H9 Nx Ny hi s8 y hX hY => ?_) (fun H8 s8 hL => ?_)
  · obtain ⟨T, x1, x2, rfl, nT, rfl, e1, e2⟩ := y
    have s9 : Same H8 (upd H8 T (.tup [x1, x2])) := same_new nT
    have e2 : (es.map V.int)[i]? = some x2 := e2
    have e1 : xs[i]? = some x1 := e1
    rw [List.getElem?_map, List.getElem?_eq_getElem (by omega)] at e2
    have e2 : V.int (es[i]'(by omega)) = x2 := Option.some.inj e2
    subst e2
    have ex : es.getD i 0 = es[i]'(by omega) := by
      rw [List.getD_eq_getElem?_getD, List.getElem?_eq_getElem (by omega)]
      rfl
    have ey : xs.getD i .non = x1 := by
      rw [List.getD_eq_getElem?_getD, e1]
      rfl
    simp only [ex, ey] at hX hY
    refine ⟨T, _, rfl, sqt upd_same, rfl, _, _, rfl, _, _, rfl, rfl, rfl, ?_⟩
    refine ⟨_, rfl, _, rfl, _, _, _, _, rfl, rfl, sql (s9 _ _ (s8 _ _ hhd7)), atI_nat (j := 1) rfl, _, _, rfl, rfl, _, rfl, ?_⟩
    refine ite2 (fun c => ⟨_, rfl, hX c _ s9⟩) (fun c => hY ?_ _ s9)
    simpa using c
  · refine ⟨by show 2 ≤ sizeLine; omega, fun p' H9 np' s9 hp' => ?_⟩
    have sC : Same H H8 := s1.trans (sB.trans s8)
    refine q n _ p' L _ H9 (W.sub (sub_range ts (0, 0) xs.length (by omega) (fun i => decide (h1 ≤ es.getD i 0)))) (sC.trans s9) (sC.free np') ((s1.trans sB).free nL) hp' (s9 _ _ hL) ?_
    exact Prs.mono ((sB.trans s8).trans s9) (prs_pick hx _ fun i hi => by
      have := (List.mem_filter.mp hi).1
      simpa using this)
theorem pure_law_any_web {K : PySem.W.Frag} {vs : List V} {H : Hp} {Q : VK} {E : XK} (h : sp_law_any_web K vs H Q E) :
    t_law_any_web K (Fin Q) (start ["_law_script", "_law_k", "_law_salt", "_law_other", "_law_head", "_law_most", "_law_more", "_law_many", "_law_ties", "_law_drops", "_law_tie", "_law_drop"] vs) H := by
  obtain ⟨a, ns, k, s, rfl, ha, k0, q⟩ := h
  have hsz : sizeLine = 16777216 := sizeLine_eq
  refine ⟨_, rfl, _, rfl, _, _, rfl, rfl, .inl ⟨by decide, by decide⟩, _, _, rfl, rfl, a, ns, 2 * k + 1, rfl, ha, by omega, fun o => ?_⟩
  refine ⟨_, rfl, _, rfl, _, _, rfl, rfl, by show 2 ≤ sizeLine; omega, fun l1 H1 nl1 s1 hl1 => ?_⟩
  refine ⟨o, s + 1, l1, [8, 4], rfl, hl1, fun z hz => by simp at hz; omega, by decide, fun ds hd H2 D nhd s2 hhd => ?_⟩
  obtain ⟨h0, h1, rfl⟩ : ∃ h0 h1, ds = [h0, h1] := by
    match ds, D with
    | [x, y], _ => exact ⟨x, y, rfl⟩
  refine ⟨by show 2 ≤ sizeLine; omega, fun T1 H3 nT1 s3 hT1 => ?_⟩
  refine ⟨by show 2 ≤ sizeLine; omega, fun T2 H4 nT2 s4 hT2 => ?_⟩
  refine ⟨by show 2 ≤ sizeLine; omega, fun l2 H5 nl2 s5 hl2 => ?_⟩
  have sA : Same H H5 := s1.trans (s2.trans (s3.trans (s4.trans s5)))
  have hhd5 : H5 hd = some (.lst [.int h0, .int h1]) := s5 _ _ (s4 _ _ (s3 _ _ hhd))
  have hT15 := s5 _ _ (s4 _ _ hT1)
  have hT25 := s5 _ _ hT2
  have fin : ∀ n ts p a xs H', WebOk n ts → Same H5 H' → H5 p = none → H5 a = none → H' p = some (.tup [.int n, .ref a]) → H' a = some (.lst xs) → Paired (Pr H') xs ts → Q (.ref p) H' :=
    fun n ts p a xs H' W e1 e2 e3 e4 e5 e6 => q n ts p a xs H' W (sA.trans e1) (sA.free e2) (sA.free e3) e4 e5 e6
  have go : ∀ b : Bool, ∃ T most more, atI [V.ref T1, V.ref T2] (if b then 1 else 0) = some (.ref T) ∧ H5 T = some (.tup [.int most, .int more]) ∧ t_law_any_web2 K (Fin Q) [some (.ref a), some (.int k), some (.int s), some (.int o), some (.ref hd), some (.int most), some (.int more), none, none, none, none, none] H5 := fun b => by
    cases b
    · exact ⟨T1, 12, 8, rfl, hT15, any_web2 (sA.seq ha) k0 hhd5 (by decide) (by decide) (by decide) (by decide) fin⟩
    · exact ⟨T2, 40, 81, rfl, hT25, any_web2 (sA.seq ha) k0 hhd5 (by decide) (by decide) (by decide) (by decide) fin⟩
  refine ⟨_, rfl, _, _, _, _, rfl, rfl, sql hhd5, atI_nat (j := 0) rfl, rfl, _, rfl, ?_⟩
  refine ite2 (fun _ => ?_) (fun _ => ?_)
  · refine ⟨_, rfl, _, _, rfl, rfl, by show (0 : Int) < 4; decide, rfl, .inr ⟨_, rfl, ?_⟩⟩
    obtain ⟨T, most, more, e1, e2, e3⟩ := go (decide (V.int (k % 4) = V.int 0))
    exact ⟨_, _, _, _, rfl, rfl, sql hl2, e1, T, _, rfl, sqt e2, rfl, _, _, rfl, _, _, rfl, rfl, e3⟩
  · refine .inr ⟨_, rfl, ?_⟩
    obtain ⟨T, most, more, e1, e2, e3⟩ := go false
    exact ⟨_, _, _, _, rfl, rfl, sql hl2, e1, T, _, rfl, sqt e2, rfl, _, _, rfl, _, _, rfl, rfl, e3⟩
end G39

/-! Neighbours as the law tells them; the law of ties told. -/
namespace G39
open PySem PySem.Spec PyProof.Rows L2
theorem tieOf_lt {t : Int × Int} (h : t.1 < t.2) : tieOf t.1 t.2 = t := by
  unfold tieOf
  rw [if_neg (by omega), if_pos (by omega)]
theorem mem_adj1 {t : Int × Int} {k x : Int} (h : t.1 < t.2) : x ∈ adj1 t k ↔ t = tieOf k x := by
  unfold adj1
  constructor
  · intro m
    rcases List.mem_append.mp m with m | m
    · by_cases e1 : t.1 = k
      · rw [if_pos e1] at m
        have e : x = t.2 := by simpa using m
        rw [e, ← e1, tieOf_lt h]
      · rw [if_neg e1] at m
        simp at m
    · by_cases e1 : t.2 = k
      · rw [if_pos e1] at m
        have e : x = t.1 := by simpa using m
        rw [e, ← e1, tieOf_comm, tieOf_lt h]
      · rw [if_neg e1] at m
        simp at m
  · intro e
    unfold tieOf at e
    have e1 : t.1 = if x < k then x else k := congrArg Prod.fst e
    have e2 : t.2 = if x > k then x else k := congrArg Prod.snd e
    by_cases c : x < k
    · rw [if_pos c] at e1
      rw [if_neg (by omega)] at e2
      refine List.mem_append.mpr (.inr ?_)
      rw [if_pos e2]
      simp [e1]
    · rw [if_neg c] at e1
      by_cases c2 : x > k
      · rw [if_pos c2] at e2
        refine List.mem_append.mpr (.inl ?_)
        rw [if_pos e1]
        simp [e2]
      · rw [if_neg c2] at e2
        omega
theorem mem_adj {n : Int} {ts : List (Int × Int)} (W : WebOk n ts) {k x : Int} : x ∈ adj ts k ↔ tieOf k x ∈ ts := by
  unfold adj
  rw [List.mem_flatMap]
  constructor
  · rintro ⟨t, ht, m⟩
    rw [← (mem_adj1 (W.good t ht).2.1).mp m]
    exact ht
  · intro m
    exact ⟨_, m, (mem_adj1 (W.good _ m).2.1).mpr rfl⟩
theorem adj1_nodup {t : Int × Int} {k : Int} (h : t.1 < t.2) : (adj1 t k).Nodup := by
  unfold adj1
  split <;> split
  · omega
  · simp
  · simp
  · simp
theorem adj_nodup {n : Int} {ts : List (Int × Int)} (W : WebOk n ts) (k : Int) : (adj ts k).Nodup := by
  unfold adj
  refine List.pairwise_flatMap.mpr ⟨fun t ht => adj1_nodup (W.good t ht).2.1, ?_⟩
  refine List.Pairwise.imp_of_mem (fun {a b} ha hb hlt x hx y hy e => ?_) W.ord
  subst e
  have e1 := (mem_adj1 (W.good a ha).2.1).mp hx
  have e2 := (mem_adj1 (W.good b hb).2.1).mp hy
  have e3 : a = b := e1.trans e2.symm
  subst e3
  unfold ltT at hlt
  omega
theorem lt_uniq : ∀ {l m : List Int}, l.Pairwise (· < ·) → m.Pairwise (· < ·) → (∀ x, x ∈ l ↔ x ∈ m) → l = m
  | [], [], _, _, _ => rfl
  | [], y :: m, _, _, h => absurd ((h y).mpr List.mem_cons_self) (by simp)
  | x :: l, [], _, _, h => absurd ((h x).mp List.mem_cons_self) (by simp)
  | x :: l, y :: m, hl, hm, h => by
    obtain ⟨hl1, hl2⟩ := List.pairwise_cons.mp hl
    obtain ⟨hm1, hm2⟩ := List.pairwise_cons.mp hm
    have e : x = y := by
      rcases List.mem_cons.mp ((h x).mp List.mem_cons_self) with e | hx
      · exact e
      · rcases List.mem_cons.mp ((h y).mpr List.mem_cons_self) with e | hy
        · exact e.symm
        · have := hl1 y hy
          have := hm1 x hx
          omega
    subst e
    rw [lt_uniq hl2 hm2 fun z => ?_]
    constructor
    · intro hz
      rcases List.mem_cons.mp ((h z).mp (List.mem_cons_of_mem _ hz)) with e | q
      · have := hl1 z hz
        omega
      · exact q
    · intro hz
      rcases List.mem_cons.mp ((h z).mpr (List.mem_cons_of_mem _ hz)) with e | q
      · have := hm1 z hz
        omega
      · exact q
theorem nbs_lt {n : Int} {ts : List (Int × Int)} (W : WebOk n ts) (k : Int) : (nbs ts k).Pairwise (· < ·) := by
  have so := ints_sorted (adj ts k)
  have nd : (nbs ts k).Nodup := (List.mergeSort_perm (adj ts k) _).nodup_iff.mpr (adj_nodup W k)
  refine List.pairwise_iff_getElem.mpr fun i j hi hj hij => ?_
  have a := List.pairwise_iff_getElem.mp so i j hi hj hij
  have b : (nbs ts k)[i] ≠ (nbs ts k)[j] := fun e => by
    have := (List.getElem_inj nd).mp e
    omega
  have a : (nbs ts k)[i] ≤ (nbs ts k)[j] := a
  omega
theorem mem_nbs {n : Int} {ts : List (Int × Int)} (W : WebOk n ts) {k x : Int} : x ∈ nbs ts k ↔ tieOf k x ∈ ts := by
  unfold nbs
  rw [(List.mergeSort_perm (adj ts k) _).mem_iff]
  exact mem_adj W
/-- the neighbours by a look at each place -/
def due (n : Int) (ts : List (Int × Int)) (k : Int) : List Int := ((List.range n.toNat).filter (fun i => decide (tieOf k ((i : Nat) : Int) ∈ ts))).map fun i => ((i : Nat) : Int)
theorem tieOf_mem {n : Int} {ts : List (Int × Int)} (W : WebOk n ts) {k x : Int} (h : tieOf k x ∈ ts) : 0 ≤ x ∧ x < n := by
  have g := W.good _ h
  unfold tieOf at g
  simp only at g
  split at g <;> split at g <;> omega
theorem nbs_due {n : Int} {ts : List (Int × Int)} (W : WebOk n ts) (k : Int) : nbs ts k = due n ts k := by
  refine lt_uniq (nbs_lt W k) ?_ fun x => ?_
  · unfold due
    refine List.pairwise_map.mpr (List.Pairwise.imp (fun {a b} h => by omega) (List.Pairwise.filter _ List.pairwise_lt_range))
  · rw [mem_nbs W]
    unfold due
    rw [List.mem_map]
    constructor
    · intro h
      have g := tieOf_mem W h
      refine ⟨x.toNat, List.mem_filter.mpr ⟨by rw [List.mem_range]; omega, ?_⟩, by omega⟩
      rw [show ((x.toNat : Nat) : Int) = x by omega]
      exact decide_eq_true h
    · rintro ⟨i, hi, rfl⟩
      exact of_decide_eq_true (List.mem_filter.mp hi).2
theorem nbs_len {n : Int} {ts : List (Int × Int)} (W : WebOk n ts) (k : Int) : (nbs ts k).length ≤ 40 := by
  rw [nbs_due W]
  unfold due
  rw [List.length_map]
  have := List.length_filter_le (fun i => decide (tieOf k ((i : Nat) : Int) ∈ ts)) (List.range n.toNat)
  rw [List.length_range] at this
  have := W.hi
  omega
/-! data of ints -/
theorem ints_dpAll {K : PySem.W.Frag} {H : Hp} : ∀ ns : List Int, DpAll K H (ns.map V.int) (ns.map PyData.int)
  | [] => .nil
  | n :: ns => .cons (.int n) (ints_dpAll ns)
theorem ints_dp {K : PySem.W.Frag} {H : Hp} {a : Addr} {ns : List Int} (h : SqL K H a (ns.map V.int)) : Dp K H (.ref a) (.list (ns.map PyData.int)) := .lst h (ints_dpAll ns)
theorem canLay_ints : ∀ ns : List Int, PyData.canLayAll0 (ns.map PyData.int) = true
  | [] => rfl
  | n :: ns => by
    show (PyData.canLay0 (.int n) && PyData.canLayAll0 (ns.map PyData.int)) = true
    rw [canLay_ints ns]
    rfl
theorem depth_ints : ∀ ns : List Int, PyData.depthAll (ns.map PyData.int) = 0
  | [] => by simp [PyData.depthAll]
  | n :: ns => by
    show max (PyData.depth (.int n)) (PyData.depthAll (ns.map PyData.int)) = 0
    rw [depth_ints ns]
    rfl
theorem shaped_ints (ns : List Int) : SeqAt.shaped (.list (ns.map PyData.int)) = true := by
  unfold SeqAt.shaped
  have h1 : PyData.canLay0 (.list (ns.map PyData.int)) = true := canLay_ints ns
  have h2 : PyData.depth (.list (ns.map PyData.int)) ≤ 64 := by
    have e : PyData.depth (.list (ns.map PyData.int)) = PyData.depthAll (ns.map PyData.int) + 1 := rfl
    rw [e, depth_ints]
    decide
  rw [h1, decide_eq_true h2]
  rfl
theorem eqvAll_ints : ∀ ns ms : List Int, PyData.eqvAll (ns.map PyData.int) (ms.map PyData.int) = decide (ns = ms)
  | [], [] => rfl
  | [], _ :: _ => rfl
  | _ :: _, [] => rfl
  | n :: ns, m :: ms => by
    show ((n == m) && PyData.eqvAll (ns.map PyData.int) (ms.map PyData.int)) = _
    rw [eqvAll_ints ns ms]
    by_cases h : n = m
    · subst h
      simp
    · simp [h]
theorem eqv_ints (ns ms : List Int) : PyData.eqv (.list (ns.map PyData.int)) (.list (ms.map PyData.int)) = decide (ns = ms) := eqvAll_ints ns ms
abbrev webD (n : Int) (ts : List (Int × Int)) : PyData := .tuple [.int n, .list (ts.map prD)]
theorem shaped_web (n : Int) (ts : List (Int × Int)) : SeqAt.shaped (webD n ts) = true := by
  unfold SeqAt.shaped
  have h1 : PyData.canLay0 (webD n ts) = true := by
    show (PyData.canLay0 (.int n) && (PyData.canLay0 (.list (ts.map prD)) && true)) = true
    rw [show PyData.canLay0 (.list (ts.map prD)) = true from canLay_prs ts]
    rfl
  have h2 : PyData.depth (webD n ts) ≤ 64 := by
    have := depth_prs ts
    have e : PyData.depth (webD n ts) = max 0 (max (PyData.depthAll (ts.map prD) + 1) 0) + 1 := rfl
    omega
  rw [h1, decide_eq_true h2]
  rfl
theorem eqvAll_prs : ∀ ts us : List (Int × Int), PyData.eqvAll (ts.map prD) (us.map prD) = decide (ts = us)
  | [], [] => rfl
  | [], _ :: _ => rfl
  | _ :: _, [] => rfl
  | t :: ts, u :: us => by
    show (PyData.eqv (prD t) (prD u) && PyData.eqvAll (ts.map prD) (us.map prD)) = _
    rw [eqvAll_prs ts us, eqv_pr]
    by_cases h : t = u
    · subst h
      simp
    · simp [h]
theorem eqv_web (n m : Int) (ts us : List (Int × Int)) : PyData.eqv (webD n ts) (webD m us) = decide (n = m ∧ ts = us) := by
  show ((n == m) && (PyData.eqvAll (ts.map prD) (us.map prD) && true)) = _
  rw [eqvAll_prs, Bool.and_true]
  by_cases h : n = m
  · subst h
    simp
  · simp [h]
/-! the law's own defs -/
def sp_law_whole (K : PySem.W.Frag) : Sp := fun vs H Q _ => ∃ i : Int, vs = [.int i] ∧ Q (.bl true) H
def t_law_whole (K : PySem.W.Frag) : TS := t_is_whole K
theorem pure_law_whole {K : PySem.W.Frag} {vs : List V} {H : Hp} {Q : VK} {E : XK} (h : sp_law_whole K vs H Q E) : t_law_whole K (Fin Q) (start ["_law_thing"] vs) H := by
  obtain ⟨i, rfl, q⟩ := h
  exact pure_is_whole (K := K) (E := E) ⟨i, rfl, q⟩
end G39

/-! Distances, layer by layer. -/
namespace G39
open PySem PySem.Spec PyProof.Rows L2
def ov : Option Int → V
  | none => .non
  | some i => .int i
theorem ov_non (x : Option Int) : decide (ov x = .non) = decide (x = none) := by
  cases x with
  | none => rfl
  | some i => simp [ov]
abbrev FR := List (Option Int) × List Int
def bstep (d : Int) (fr : FR) (o : Int) : FR := if fr.1.getD o.toNat (some 0) = none then (fr.1.set o.toNat (some (d + 1)), fr.2 ++ [o]) else fr
def dOf (f : List (Option Int)) (x : Int) : Int := (f.getD x.toNat none).getD 0
def bturn (nbL : List (List Int)) (fr : FR) (x : Int) : FR := (nbL.getD x.toNat []).foldl (bstep (dOf fr.1 x)) fr
def bfs (nbL : List (List Int)) : Nat → FR → Nat → List (Option Int)
  | 0, fr, _ => fr.1
  | k + 1, fr, at_ => match fr.2[at_]? with
    | none => fr.1
    | some x => bfs nbL k (bturn nbL fr x) (at_ + 1)
def far0 (n : Nat) (p : Int) : FR := ((List.replicate n none).set p.toNat (some 0), [p])
def farL (nbL : List (List Int)) (p : Int) : List (Option Int) := bfs nbL (nbL.length + 1) (far0 nbL.length p) 0
/-- lists of lists of ints -/
def IsLL (H : Hp) (bl : Addr) (nbL : List (List Int)) : Prop := ∃ bs : List Addr, H bl = some (.lst (bs.map V.ref)) ∧ Paired (fun b ns => H b = some (.lst (ns.map V.int))) bs nbL
theorem IsLL.mono {H H' : Hp} (e : Same H H') {bl : Addr} {nbL : List (List Int)} (h : IsLL H bl nbL) : IsLL H' bl nbL := let ⟨bs, h1, h2⟩ := h; ⟨bs, e _ _ h1, Paired.mapP h2 fun _ _ q => e _ _ q⟩
structure BI (n : Nat) (fr : FR) : Prop where
  len : fr.1.length = n
  cnt : fr.2.length + fr.1.count none = n
  row : ∀ x ∈ fr.2, 0 ≤ x ∧ x < n ∧ ∃ d, fr.1[x.toNat]? = some (some d)
theorem count_set_none : ∀ {f : List (Option Int)} {j : Nat} {v : Int}, f[j]? = some none → (f.set j (some v)).count none + 1 = f.count none
  | [], j, v, h => by simp at h
  | x :: f, 0, v, h => by
    have e : x = none := Option.some.inj h
    subst e
    show (some v :: f).count none + 1 = (none :: f).count none
    rw [List.count_cons, List.count_cons]
    simp
  | x :: f, j + 1, v, h => by
    have ih := count_set_none (f := f) (j := j) (v := v) h
    show (x :: f.set j (some v)).count none + 1 = (x :: f).count none
    rw [List.count_cons, List.count_cons]
    omega
theorem getD_none {f : List (Option Int)} {j : Nat} (hj : j < f.length) : f.getD j (some 0) = none ↔ f[j]? = some none := by
  rw [List.getD_eq_getElem?_getD, List.getElem?_eq_getElem hj]
  simp
theorem BI.step {n : Nat} {fr : FR} (h : BI n fr) {d o : Int} (h0 : 0 ≤ o) (h1 : o < n) : BI n (bstep d fr o) := by
  unfold bstep
  by_cases c : fr.1.getD o.toNat (some 0) = none
  · rw [if_pos c]
    have hl := h.len
    have c2 := (getD_none (by omega)).mp c
    refine ⟨by rw [List.length_set]; exact h.len, ?_, fun x hx => ?_⟩
    · have e := count_set_none (v := d + 1) c2
      have := h.cnt
      simp only [List.length_append, List.length_cons, List.length_nil]
      omega
    · rcases List.mem_append.mp hx with hx | hx
      · obtain ⟨a, b, e, he⟩ := h.row x hx
        refine ⟨a, b, ?_⟩
        rw [List.getElem?_set]
        split
        · rename_i q
          rw [q, he] at c2
          cases c2
        · exact ⟨e, he⟩
      · have e : x = o := by simpa using hx
        subst e
        refine ⟨h0, h1, d + 1, ?_⟩
        rw [List.getElem?_set, if_pos rfl, if_pos (by omega)]
  · rw [if_neg c]
    exact h
theorem step_keep {n : Nat} {fr : FR} (h : BI n fr) {d o : Int} {x : Int} {e : Int} (hx : fr.1[x.toNat]? = some (some e)) (h1 : o.toNat < n) : (bstep d fr o).1[x.toNat]? = some (some e) := by
  unfold bstep
  by_cases c : fr.1.getD o.toNat (some 0) = none
  · rw [if_pos c]
    have hl := h.len
    have c2 := (getD_none (by omega)).mp c
    rw [List.getElem?_set]
    split
    · rename_i q
      rw [q, hx] at c2
      cases c2
    · exact hx
  · rw [if_neg c]
    exact hx
theorem fold_keep {n : Nat} {d : Int} : ∀ (os : List Int) {fr : FR}, BI n fr → (∀ o ∈ os, 0 ≤ o ∧ o < n) → BI n (os.foldl (bstep d) fr) ∧ ∀ {x e : Int}, fr.1[x.toNat]? = some (some e) → (os.foldl (bstep d) fr).1[x.toNat]? = some (some e)
  | [], fr, h, _ => ⟨h, fun q => q⟩
  | o :: os, fr, h, ho => by
    have g := ho o List.mem_cons_self
    obtain ⟨a, b⟩ := fold_keep os (h.step (d := d) g.1 g.2) (fun o' q => ho o' (List.mem_cons_of_mem _ q))
    exact ⟨a, fun q => b (step_keep h q (by omega))⟩
theorem far0_ok {n : Nat} {p : Int} (h0 : 0 ≤ p) (h1 : p < n) : BI n (far0 n p) := by
  refine ⟨by simp [far0], ?_, fun x hx => ?_⟩
  · have e := count_set_none (f := List.replicate n none) (j := p.toNat) (v := 0) (by rw [List.getElem?_replicate, if_pos (by omega)])
    rw [List.count_replicate_self] at e
    show 1 + ((List.replicate n none).set p.toNat (some 0)).count none = n
    omega
  · have e : x = p := by simpa [far0] using hx
    subst e
    refine ⟨h0, h1, 0, ?_⟩
    show ((List.replicate n none).set x.toNat (some 0))[x.toNat]? = _
    rw [List.getElem?_set, if_pos rfl, if_pos (by simp; omega)]
/-- a def's promise: the distances of a place -/
def sp_far_by (K : PySem.W.Frag) : Sp := fun vs H Q _ => ∃ (bl : Addr) (p : Int) (nbL : List (List Int)), vs = [.ref bl, .int p] ∧ IsLL H bl nbL ∧ (∀ ns ∈ nbL, ∀ x ∈ ns, 0 ≤ x ∧ x < nbL.length) ∧ 0 ≤ p ∧ p < nbL.length ∧ nbL.length ≤ 1000 ∧
  Nw H (.lst ((farL nbL p).map ov)) Q
def t_farG (K : PySem.W.Frag) (inc : TS) : TS := (tSeq (tAsg (tOp rRepG (tLstG (tCons (tC .non) tNil)) (tCB (rLenSq K) (tCons (tVar 0) tNil))) (gName 2))
    (tSeq (tAsg (tC (.int 0)) (gSub (tVar 2) (tVar 1) rSetL))
    (tSeq (tAsg (tLstG (tCons (tVar 1) tNil)) (gName 3))
    (tSeq (tAsg (tC (.int 0)) (gName 4))
    (tSeq (tWhile (tTest (tOp rLt (tVar 4) (tCB (rLenSq K) (tCons (tVar 3) tNil)))) (tSeq (tFor (iList K (tOp (rIxL K) (tVar 0) (tOp (rIxL K) (tVar 3) (tVar 4)))) (gName 5) (tIfS (tTest (tOp rIsNn (tOp (rIxL K) (tVar 2) (tVar 5)) (tC .non))) (tSeq (tAsg (tOp rAdd (tOp (rIxL K) (tVar 2) (tOp (rIxL K) (tVar 3) (tVar 4))) (tC (.int 1))) (gSub (tVar 2) (tVar 5) rSetL))
    (tDrop (tBM K "list" rAppend (tVar 3) (tCons (tVar 5) tNil)))) tNext))
    inc))
    (tRet (tVar 2)))))))
def t_far_by (K : PySem.W.Frag) : TS := t_farG K (tAug 4 (tC (.int 1)) (ipI fun i j => i + j))
def t_law_far (K : PySem.W.Frag) : TS := t_farG K (tAsg (tOp rAdd (tVar 4) (tC (.int 1))) (gName 4))
theorem ixN_at {n : Nat} {i : Int} (h0 : 0 ≤ i) (h1 : i < n) : ixN n i = some i.toNat := by
  unfold ixN
  rw [if_pos h0, if_pos h1]
theorem ov_get {f : List (Option Int)} {i : Nat} {v : Option Int} (h : f[i]? = some v) : (f.map ov)[i]? = some (ov v) := by
  rw [List.getElem?_map, h]
  rfl
theorem rep_non (k : Nat) : (List.replicate k [V.non]).flatten = (List.replicate k (none : Option Int)).map ov := by
  induction k with
  | zero => rfl
  | succ k ih => rw [List.replicate_succ, List.flatten_cons, ih, List.replicate_succ]; rfl
theorem pure_farG {K : PySem.W.Frag} {vs : List V} {H : Hp} {Q : VK} {E : XK} {inc : TS} {N : List Str} (hN : N.length = 6)
    (hinc : ∀ (a b c d : Option V) (i : Int) (e : Option V) (D : Ends) (H' : Hp), D.nx [a, b, c, d, some (.int (i + 1)), e] H' → inc D [a, b, c, d, some (.int i), e] H') (h : sp_far_by K vs H Q E) : t_farG K inc (Fin Q) (start N vs) H := by
  obtain ⟨bl, p, nbL, rfl, ⟨bs, hbl, hbs⟩, hin, p0, p1, hn, q⟩ := h
  have hsz : sizeLine = 16777216 := sizeLine_eq
  have hst : start N [V.ref bl, V.int p] = [some (.ref bl), some (.int p), none, none, none, none] := by
    unfold L2.start
    rw [hN]
    rfl
  rw [hst]
  have hbl2 := Paired.length hbs
  refine ⟨by show 1 ≤ sizeLine; omega, fun l0 H1 nl0 s1 hl0 => ?_⟩
  refine ⟨_, rfl, bl, _, rfl, .inl (sql (s1 _ _ hbl)), l0, _, _, rfl, rfl, hl0, by rw [List.length_map]; omega, by rw [List.length_map]; omega, by rw [List.length_map]; show 1 * (bs.length : Int).toNat ≤ sizeLine; omega, fun fd H2 nfd s2 hfd => ?_⟩
  have s12 := s1.trans s2
  rw [List.length_map, rep_non, Int.toNat_natCast, hbl2] at hfd
  have nfd0 : H fd = none := s1.free nfd
  refine ⟨_, rfl, _, rfl, fd, _, p, p.toNat, rfl, rfl, hfd, by rw [List.length_map, List.length_replicate]; exact ixN_at p0 p1, ?_⟩
  have s3 : ∀ o, Same H (upd H2 fd o) := fun o => same_mut s12 nfd0
  have e3 : ((List.replicate nbL.length none).map ov).set p.toNat (.int 0) = (far0 nbL.length p).1.map ov := by
    show _ = ((List.replicate nbL.length none).set p.toNat (some 0)).map ov
    rw [List.map_set]
    rfl
  refine ⟨_, rfl, by show 1 ≤ sizeLine; omega, fun rw_ H3 nrw s3' hrw => ?_⟩
  have hfd3 : H3 fd = some (.lst ((far0 nbL.length p).1.map ov)) := by
    rw [← e3]
    exact s3' _ _ upd_same
  have sH3 : Same H H3 := (s3 _).trans s3'
  have nrw0 : H rw_ = none := (s3 _).free nrw
  have nrf : rw_ ≠ fd := fun e => by
    rw [e, upd_same] at nrw
    cases nrw
  have B0 := far0_ok (n := nbL.length) p0 p1
  refine ⟨fun m σ H4 => ∃ (fr : FR) (at_ : Nat) (v5 : Option V), m = nbL.length - at_ ∧ σ = [some (.ref bl), some (.int p), some (.ref fd), some (.ref rw_), some (.int ((at_ : Nat) : Int)), v5] ∧ Same H H4 ∧ H4 fd = some (.lst (fr.1.map ov)) ∧ H4 rw_ = some (.lst (fr.2.map V.int)) ∧
      BI nbL.length fr ∧ at_ ≤ nbL.length ∧ bfs nbL (nbL.length + 1 - at_) fr at_ = farL nbL p,
    ⟨nbL.length, far0 nbL.length p, 0, none, rfl, rfl, sH3, hfd3, hrw, B0, Nat.zero_le _, rfl⟩, ?_⟩
  rintro m σ H4 ⟨fr, at_, v5, rfl, rfl, s4, hfd4, hrw4, B, hat, hbfs⟩
  refine ⟨_, rfl, _, rfl, rw_, _, rfl, .inl (sql hrw4), _, _, rfl, rfl, _, rfl, ?_⟩
  rw [List.length_map]
  refine ite2 (fun c => ?_) (fun c => ?_)
  · have c : (at_ : Int) < (fr.2.length : Int) := of_decide_eq_true c
    have hc := B.cnt
    have hatlt : at_ < fr.2.length := by omega
    obtain ⟨x, hx⟩ := getn hatlt
    obtain ⟨x0, x1, d, hd⟩ := B.row x (List.mem_of_getElem? hx)
    obtain ⟨b, hb⟩ := getn (l := bs) (i := x.toNat) (by omega)
    obtain ⟨ns, hns, hbb⟩ := paired_get hbs hb
    have hns2 := hin ns (List.mem_of_getElem? hns)
    have eturn : bturn nbL fr x = ns.foldl (bstep d) fr := by
      unfold bturn dOf
      simp only [List.getD_eq_getElem?_getD, hns, hd]
      rfl
    have eb : bfs nbL (nbL.length + 1 - at_) fr at_ = bfs nbL (nbL.length - at_) (bturn nbL fr x) (at_ + 1) := by
      rw [show nbL.length + 1 - at_ = (nbL.length - at_) + 1 by omega]
      show (match fr.2[at_]? with | none => fr.1 | some x => bfs nbL (nbL.length - at_) (bturn nbL fr x) (at_ + 1)) = _
      rw [hx]
    have ax : atI (fr.2.map V.int) ((at_ : Nat) : Int) = some (.int x) := atI_nat (map_int_get hx)
    have ab : atI (bs.map V.ref) x = some (.ref b) := at_of (j := x.toNat) (by omega) (map_ref_get hb)
    refine ⟨fun σ' H' => ∃ (fr : FR) (at2 : Nat) (v5 : Option V), at2 = at_ + 1 ∧ σ' = [some (.ref bl), some (.int p), some (.ref fd), some (.ref rw_), some (.int ((at2 : Nat) : Int)), v5] ∧ Same H H' ∧ H' fd = some (.lst (fr.1.map ov)) ∧ H' rw_ = some (.lst (fr.2.map V.int)) ∧
        BI nbL.length fr ∧ at2 ≤ nbL.length ∧ bfs nbL (nbL.length + 1 - at2) fr at2 = farL nbL p, fun σ' H' ⟨fr', at2, v5', e1, e2, e3, e4, e5, e6, e7, e8⟩ => ⟨nbL.length - at2, by omega, fr', at2, v5', rfl, e2, e3, e4, e5, e6, e7, e8⟩, ?_⟩
    refine ⟨_, rfl, _, rfl, _, rfl, _, _, _, _, rfl, rfl, sql hrw4, ax, _, _, _, _, rfl, rfl, sql (s4 _ _ hbl), ab, b, rfl, ⟨_, sql (s4 _ _ hbb)⟩, ?_⟩
    refine for_list (K := K) (a := b) (xs := ns.map V.int) (fun j σ H5 => ∃ v5 : Option V, σ = [some (.ref bl), some (.int p), some (.ref fd), some (.ref rw_), some (.int ((at_ : Nat) : Int)), v5] ∧ Same H H5 ∧ H5 fd = some (.lst (((ns.take j).foldl (bstep d) fr).1.map ov)) ∧ H5 rw_ = some (.lst (((ns.take j).foldl (bstep d) fr).2.map V.int)) ∧ ((ns.take j).foldl (bstep d) fr).2[at_]? = some x)
      ⟨v5, rfl, s4, hfd4, hrw4, hx⟩ (fun j σ H5 _ ⟨_, _, s5, _⟩ => sql (s5 _ _ hbb)) ?_ ?_
    · rintro j y σ H5 hj ⟨v5', rfl, s5, hfd5, hrw5, hx5⟩
      rw [List.getElem?_map] at hj
      cases ho : ns[j]? with
      | none =>
        rw [ho] at hj
        cases hj
      | some o =>
        rw [ho] at hj
        have ey : V.int o = y := Option.some.inj hj
        subst ey
        obtain ⟨o0, o1⟩ := hns2 o (List.mem_of_getElem? ho)
        obtain ⟨Bj, kj⟩ := fold_keep (d := d) (ns.take j) B (fun o' q => hns2 o' (List.mem_of_mem_take q))
        have hdj := kj hd
        have ej : (ns.take (j + 1)).foldl (bstep d) fr = bstep d ((ns.take j).foldl (bstep d) fr) o := by
          rw [List.take_add_one, ho, List.foldl_append]
          rfl
        generalize (ns.take j).foldl (bstep d) fr = g at *
        have gl := Bj.len
        obtain ⟨w, hw⟩ := getn (l := g.1) (i := o.toNat) (by omega)
        refine ⟨_, rfl, _, rfl, _, _, _, _, rfl, rfl, sql hfd5, at_of (j := o.toNat) (by omega) (ov_get hw), rfl, _, rfl, ?_⟩
        rw [ov_non]
        have ew : (g.1.getD o.toNat (some 0) = none) ↔ w = none := by
          rw [getD_none (by omega), hw]
          constructor
          · intro z; exact Option.some.inj z
          · intro z; rw [z]
        refine ite2 (fun c => ?_) (fun c => ?_)
        · have c : w = none := of_decide_eq_true c
          subst c
          have eb2 : bstep d g o = (g.1.set o.toNat (some (d + 1)), g.2 ++ [o]) := by
            unfold bstep
            rw [if_pos (ew.mpr rfl)]
          refine ⟨_, rfl, _, rfl, _, rfl, _, _, _, _, rfl, rfl, sql hrw5, atI_nat (map_int_get hx5), _, _, _, _, rfl, rfl, sql hfd5, at_of (j := x.toNat) (by omega) (ov_get hdj), d, 1, rfl, rfl, ?_⟩
          refine ⟨_, rfl, _, rfl, fd, _, o, o.toNat, rfl, rfl, hfd5, by rw [List.length_map]; exact ixN_at o0 (by omega), ?_⟩
          have hrw6 : ∀ z, (upd H5 fd z) rw_ = some (.lst (g.2.map V.int)) := fun z => by rw [upd_ne nrf]; exact hrw5
          refine ⟨_, rfl, tyl (hrw6 _), _, rfl, rw_, _, _, rfl, rfl, hrw6 _, ?_, ?_⟩
          · rw [List.length_map]
            have := Bj.cnt
            omega
          · refine ⟨_, rfl, same_mut (same_mut s5 nfd0) nrw0, ?_, ?_, ?_⟩
            · rw [upd_ne nrf.symm, upd_same, ej, eb2, List.map_set]
              rfl
            · rw [ej, eb2]
              exact app_int
            · rw [ej, eb2]
              show (g.2 ++ [o])[at_]? = some x
              rw [List.getElem?_append_left (List.getElem?_eq_some_iff.mp hx5).1]
              exact hx5
        · have c : ¬ w = none := fun z => c (decide_eq_true z)
          have eb2 : bstep d g o = g := by
            unfold bstep
            rw [if_neg (fun z => c (ew.mp z))]
          refine ⟨_, rfl, s5, ?_, ?_, ?_⟩
          · rw [ej, eb2]; exact hfd5
          · rw [ej, eb2]; exact hrw5
          · rw [ej, eb2]; exact hx5
    · rintro σ H5 ⟨v5', rfl, s5, hfd5, hrw5, hx5⟩
      rw [List.length_map, List.take_of_length_le (Nat.le_refl _), ← eturn] at hfd5 hrw5
      refine hinc _ _ _ _ _ _ _ _ ?_
      have Bt : BI nbL.length (bturn nbL fr x) := by
        rw [eturn]
        exact (fold_keep (d := d) ns B hns2).1
      refine ⟨bturn nbL fr x, at_ + 1, v5', rfl, rfl, s5, hfd5, hrw5, Bt, by omega, ?_⟩
      rw [show nbL.length + 1 - (at_ + 1) = nbL.length - at_ by omega, ← eb]
      exact hbfs
  · have c : ¬ (at_ : Int) < (fr.2.length : Int) := fun z => c (decide_eq_true z)
    have e : farL nbL p = fr.1 := by
      rw [← hbfs]
      cases hk : nbL.length + 1 - at_ with
      | zero => rfl
      | succ k =>
        show (match fr.2[at_]? with | none => fr.1 | some x => bfs nbL k (bturn nbL fr x) (at_ + 1)) = fr.1
        rw [List.getElem?_eq_none (by omega)]
    refine ⟨_, rfl, q fd H4 nfd0 s4 ?_⟩
    rw [e]
    exact hfd4
theorem pure_far_by {K : PySem.W.Frag} {vs : List V} {H : Hp} {Q : VK} {E : XK} {N : List Str} (h : sp_far_by K vs H Q E) (hN : N.length = 6 := by rfl) : t_far_by K (Fin Q) (start N vs) H :=
  pure_farG hN (fun a b c d i e D H' q => ⟨_, rfl, _, _, rfl, rfl, q⟩) h
abbrev sp_law_far := sp_far_by
theorem pure_law_far {K : PySem.W.Frag} {vs : List V} {H : Hp} {Q : VK} {E : XK} {N : List Str} (h : sp_law_far K vs H Q E) (hN : N.length = 6 := by rfl) : t_law_far K (Fin Q) (start N vs) H :=
  pure_farG hN (fun a b c d i e D H' q => ⟨_, rfl, _, _, rfl, rfl, q⟩) h
end G39

/-! Ways: distances and tables of webs. -/
namespace G39
open PySem PySem.Spec PyProof.Rows L2
theorem paired_of_get {α β : Type} {F : α → β → Prop} : ∀ {xs : List α} {ys : List β}, xs.length = ys.length → (∀ (i : Nat) x y, xs[i]? = some x → ys[i]? = some y → F x y) → Paired F xs ys
  | [], [], _, _ => .nil
  | [], _ :: _, h, _ => by simp at h
  | _ :: _, [], h, _ => by simp at h
  | x :: xs, y :: ys, h, f => .cons (f 0 x y rfl rfl) (paired_of_get (by simpa using h) fun i a b h1 h2 => f (i + 1) a b h1 h2)
/-- the neighbours of all places -/
def nbl (n : Int) (ts : List (Int × Int)) : List (List Int) := (List.range n.toNat).map fun i => nbs ts ((i : Nat) : Int)
theorem nbl_len (n : Int) (ts : List (Int × Int)) : (nbl n ts).length = n.toNat := by simp [nbl]
theorem nbl_in {n : Int} {ts : List (Int × Int)} (W : WebOk n ts) : ∀ ns ∈ nbl n ts, ∀ x ∈ ns, 0 ≤ x ∧ x < (nbl n ts).length := by
  intro ns hns x hx
  unfold nbl at hns
  obtain ⟨i, _, rfl⟩ := List.mem_map.mp hns
  have g := tieOf_mem W ((mem_nbs W).mp hx)
  rw [nbl_len]
  have := W.lo
  omega
theorem Bes.ll {H : Hp} {bs : List Addr} {n : Int} {ts : List (Int × Int)} {p : Addr} (h : Bes H bs n ts) (hp : H p = some (.lst (bs.map V.ref))) : IsLL H p (nbl n ts) := by
  refine ⟨bs, hp, paired_of_get (by rw [nbl_len]; exact h.len) fun i b ns hb hns => ?_⟩
  rw [h.at_ i b hb]
  unfold nbl at hns
  rw [List.getElem?_map] at hns
  have hi : i < n.toNat := by
    have := (List.getElem?_eq_some_iff.mp hb).1
    have := h.len
    omega
  rw [List.getElem?_range hi] at hns
  have e : nbs ts ((i : Nat) : Int) = ns := Option.some.inj hns
  rw [e]
/-- the distances of a place in a web -/
def dst (n : Int) (ts : List (Int × Int)) (p : Int) : List (Option Int) := farL (nbl n ts) p
def sp_distances (K : PySem.W.Frag) : Sp := fun vs H Q _ => ∃ (v : V) (n : Int) (ts : List (Int × Int)) (i : Int), vs = [v, .int i] ∧ IsW H v n ts ∧ WebOk n ts ∧ 0 ≤ i ∧ i < n ∧ Nw H (.lst ((dst n ts i).map ov)) Q
def t_distances (K : PySem.W.Frag) : TS := (tSeq (tDrop (tCall (sp_look_at_web K) [] E0 (tCons (tVar 0) tNil)))
    (tSeq (tDrop (tCall (sp_look_at_place K) [] E0 (tCons (tVar 0) (tCons (tVar 1) tNil))))
    (tRet (tCall (sp_far_by K) [] E0 (tCons (tCall (sp_beside_all K) [] E0 (tCons (tVar 0) tNil)) (tCons (tVar 1) tNil))))))
theorem far_spec {K : PySem.W.Frag} {H : Hp} {Q : VK} {E : XK} {bl : Addr} {bs : List Addr} {n : Int} {ts : List (Int × Int)} {i : Int} (W : WebOk n ts) (B : Bes H bs n ts) (hp : H bl = some (.lst (bs.map V.ref))) (i0 : 0 ≤ i) (i1 : i < n) (q : Nw H (.lst ((dst n ts i).map ov)) Q) : sp_far_by K [.ref bl, .int i] H Q E := by
  have := W.lo
  have := W.hi
  exact ⟨bl, i, nbl n ts, rfl, B.ll hp, nbl_in W, i0, by rw [nbl_len]; omega, by rw [nbl_len]; omega, q⟩
theorem pure_distances {K : PySem.W.Frag} {vs : List V} {H : Hp} {Q : VK} {E : XK} (h : sp_distances K vs H Q E) : t_distances K (Fin Q) (start ["web", "place"] vs) H := by
  obtain ⟨v, n, ts, i, rfl, hw, W, i0, i1, q⟩ := h
  refine ⟨_, rfl, v, n, ts, rfl, hw, W, fun H1 s1 => ?_⟩
  have hw1 := hw.mono s1
  refine ⟨_, rfl, _, rfl, v, n, ts, i, rfl, hw1, i0, i1, ?_⟩
  refine ⟨_, rfl, v, n, ts, rfl, hw1, W, fun p bs H2 s2 np hp B nd fr => ?_⟩
  exact ⟨_, rfl, far_spec (K := K) (E := E0) W B hp i0 i1 fun f H3 nf s3 hf => q f H3 ((s1.trans s2).free nf) ((s1.trans s2).trans s3) hf⟩
/-- a table of a web, all lists new -/
def Tab (H H' : Hp) (p : Addr) (bs : List Addr) (n : Int) (ts : List (Int × Int)) : Prop :=
  H' p = some (.lst (bs.map V.ref)) ∧ bs.length = n.toNat ∧ bs.Nodup ∧ ∀ (i : Nat) b, bs[i]? = some b → H' b = some (.lst ((dst n ts ((i : Nat) : Int)).map ov)) ∧ H b = none ∧ b ≠ p
def sp_far_table (K : PySem.W.Frag) : Sp := fun vs H Q _ => ∃ (v : V) (n : Int) (ts : List (Int × Int)), vs = [v] ∧ IsW H v n ts ∧ WebOk n ts ∧
  ∀ (p : Addr) (bs : List Addr) (H' : Hp), Same H H' → H p = none → Tab H H' p bs n ts → Q (.ref p) H'
def t_far_table (K : PySem.W.Frag) : TS := (tSeq (tAsg (tCall (sp_beside_all K) [] E0 (tCons (tVar 0) tNil)) (gName 1))
    (tRet (tLc (iRng1 (tCons (tOp (rIxT K) (tVar 0) (tC (.int 0))) tNil)) (gName 2) tYes (tCall (sp_far_by K) [] E0 (tCons (tVar 1) (tCons (tVar 2) tNil))) [2])))
theorem pure_far_table {K : PySem.W.Frag} {vs : List V} {H : Hp} {Q : VK} {E : XK} (h : sp_far_table K vs H Q E) : t_far_table K (Fin Q) (start ["web", "beside", "place"] vs) H := by
  obtain ⟨v, n, ts, rfl, hw, W, q⟩ := h
  have hsz : sizeLine = 16777216 := sizeLine_eq
  have := W.lo
  have := W.hi
  refine ⟨_, rfl, v, n, ts, rfl, hw, W, fun p bs H1 s1 np hp B nd fr => ?_⟩
  obtain ⟨w, a, rfl, hwp, _⟩ := hw.mono s1
  refine ⟨_, rfl, _, _, _, _, rfl, rfl, sqt hwp, atI_nat (j := 0) rfl, n, rfl, by omega, by omega, fun D nD => ?_⟩
  refine lc_objs walk_rng0 nD (fun i => .lst ((dst n ts ((i : Nat) : Int)).map ov)) (by omega) (fun _ _ => trivial) (fun i x H2 H3 Nx Ny hi s2 y hN => ?_) (fun H2 cs s2 hD hl nd2 hb => ?_)
  · obtain ⟨rfl, rfl⟩ := y
    exact ⟨rfl, _, rfl, _, rfl, far_spec (K := K) (E := E0) W (B.mono s2) (s2 _ _ hp) (by omega) (by omega) fun f H4 nf s4 hf => hN f H4 nf s4 hf⟩
  · exact q D cs H2 (s1.trans s2) (s1.free nD) ⟨hD, hl, nd2, fun i b e => let ⟨g1, g2, g3⟩ := hb i b e; ⟨g1, s1.free g2, g3⟩⟩
def sp_table (K : PySem.W.Frag) : Sp := sp_far_table K
def t_table (K : PySem.W.Frag) : TS := (tSeq (tDrop (tCall (sp_look_at_web K) [] E0 (tCons (tVar 0) tNil)))
    (tRet (tCall (sp_far_table K) [] E0 (tCons (tVar 0) tNil))))
theorem pure_table {K : PySem.W.Frag} {vs : List V} {H : Hp} {Q : VK} {E : XK} (h : sp_table K vs H Q E) : t_table K (Fin Q) (start ["web"] vs) H := by
  obtain ⟨v, n, ts, rfl, hw, W, q⟩ := h
  refine ⟨_, rfl, v, n, ts, rfl, hw, W, fun H1 s1 => ?_⟩
  exact ⟨_, rfl, v, n, ts, rfl, hw.mono s1, W, fun p bs H2 s2 np T => q p bs H2 (s1.trans s2) (s1.free np) ⟨T.1, T.2.1, T.2.2.1, fun i b e => let ⟨g1, g2, g3⟩ := T.2.2.2 i b e; ⟨g1, s1.free g2, g3⟩⟩⟩
/-! the law's own lists of neighbours -/
abbrev sp_law_beside := sp_beside_all
abbrev t_law_beside := t_beside_all
theorem pure_law_beside {K : PySem.W.Frag} {vs : List V} {H : Hp} {Q : VK} {E : XK} {N : List Str} (h : sp_law_beside K vs H Q E) (hN : N.length = 6 := by rfl) : t_law_beside K (Fin Q) (start N vs) H := by
  have e : start N vs = start ["web", "found", "one", "other", "place", "places"] vs := by
    unfold L2.start
    rw [hN]
    rfl
  rw [e]
  exact pure_beside_all (E := E) h
/-! data: rows of distances -/
def od : Option Int → PyData
  | none => .none
  | some i => .int i
theorem ov_dp {K : PySem.W.Frag} {H : Hp} (x : Option Int) : Dp K H (ov x) (od x) := by
  cases x with
  | none => exact .non
  | some i => exact .int i
theorem ovs_dp {K : PySem.W.Frag} {H : Hp} : ∀ f : List (Option Int), DpAll K H (f.map ov) (f.map od)
  | [] => .nil
  | x :: f => .cons (ov_dp x) (ovs_dp f)
abbrev rowD (f : List (Option Int)) : PyData := .list (f.map od)
abbrev rowsD (rs : List (List (Option Int))) : PyData := .list (rs.map rowD)
theorem row_dp {K : PySem.W.Frag} {H : Hp} {a : Addr} {f : List (Option Int)} (h : H a = some (.lst (f.map ov))) : Dp K H (.ref a) (rowD f) := .lst (sql h) (ovs_dp f)
theorem rows_dpAll {K : PySem.W.Frag} {H : Hp} : ∀ {bs : List Addr} {rs : List (List (Option Int))}, Paired (fun b r => H b = some (.lst (r.map ov))) bs rs → DpAll K H (bs.map V.ref) (rs.map rowD)
  | _, _, .nil => .nil
  | _, _, .cons h t => .cons (row_dp h) (rows_dpAll t)
theorem rows_dp {K : PySem.W.Frag} {H : Hp} {a : Addr} {bs : List Addr} {rs : List (List (Option Int))} (h : H a = some (.lst (bs.map V.ref))) (hp : Paired (fun b r => H b = some (.lst (r.map ov))) bs rs) : Dp K H (.ref a) (rowsD rs) := .lst (sql h) (rows_dpAll hp)
theorem canLay_od : ∀ f : List (Option Int), PyData.canLayAll0 (f.map od) = true
  | [] => rfl
  | x :: f => by
    show (PyData.canLay0 (od x) && PyData.canLayAll0 (f.map od)) = true
    rw [canLay_od f]
    cases x <;> rfl
theorem depth_od : ∀ f : List (Option Int), PyData.depthAll (f.map od) = 0
  | [] => by simp [PyData.depthAll]
  | x :: f => by
    show max (PyData.depth (od x)) (PyData.depthAll (f.map od)) = 0
    rw [depth_od f]
    cases x <;> rfl
theorem depth_row (f : List (Option Int)) : PyData.depth (rowD f) = 1 := by
  show PyData.depthAll (f.map od) + 1 = 1
  rw [depth_od]
theorem shaped_row (f : List (Option Int)) : SeqAt.shaped (rowD f) = true := by
  unfold SeqAt.shaped
  rw [show PyData.canLay0 (rowD f) = true from canLay_od f, decide_eq_true (by rw [depth_row]; decide)]
  rfl
theorem canLay_rows : ∀ rs : List (List (Option Int)), PyData.canLayAll0 (rs.map rowD) = true
  | [] => rfl
  | r :: rs => by
    show (PyData.canLay0 (rowD r) && PyData.canLayAll0 (rs.map rowD)) = true
    rw [canLay_rows rs, show PyData.canLay0 (rowD r) = true from canLay_od r]
    rfl
theorem depth_rows : ∀ rs : List (List (Option Int)), PyData.depthAll (rs.map rowD) ≤ 1
  | [] => by simp [PyData.depthAll]
  | r :: rs => by
    have ih := depth_rows rs
    show max (PyData.depth (rowD r)) (PyData.depthAll (rs.map rowD)) ≤ 1
    rw [depth_row]
    omega
theorem shaped_rows (rs : List (List (Option Int))) : SeqAt.shaped (rowsD rs) = true := by
  unfold SeqAt.shaped
  have h2 : PyData.depth (rowsD rs) ≤ 64 := by
    have := depth_rows rs
    show PyData.depthAll (rs.map rowD) + 1 ≤ 64
    omega
  rw [show PyData.canLay0 (rowsD rs) = true from canLay_rows rs, decide_eq_true h2]
  rfl
theorem eqvAll_refl {f : α → PyData} (h : ∀ x, PyData.eqv (f x) (f x) = true) : ∀ l : List α, PyData.eqvAll (l.map f) (l.map f) = true
  | [] => rfl
  | x :: l => by
    show (PyData.eqv (f x) (f x) && PyData.eqvAll (l.map f) (l.map f)) = true
    rw [h x, eqvAll_refl h l]
    rfl
theorem eqv_row (f : List (Option Int)) : PyData.eqv (rowD f) (rowD f) = true := eqvAll_refl (f := od) (fun x => by
  cases x with
  | none => rfl
  | some i => show (i == i) = true; simp) f
theorem eqv_rows (rs : List (List (Option Int))) : PyData.eqv (rowsD rs) (rowsD rs) = true := eqvAll_refl (f := rowD) eqv_row rs
end G39

/-! Distances are those of shortest ways: plain Lean. -/
namespace G39
/-- y stands among x's neighbours -/
def Nb (nbL : List (List Int)) (x y : Int) : Prop := ∃ ns, nbL[x.toNat]? = some ns ∧ y ∈ ns
theorem dOf_eq {f : List (Option Int)} {x d : Int} (h : f[x.toNat]? = some (some d)) : dOf f x = d := by
  unfold dOf
  rw [List.getD_eq_getElem?_getD, h]
  rfl
def ExtF (f g : List (Option Int)) : Prop := ∀ (v : Nat) d, f[v]? = some (some d) → g[v]? = some (some d)
structure BV (nbL : List (List Int)) (p : Int) (fr : FR) : Prop where
  bi : BI nbL.length fr
  p0 : fr.1[p.toNat]? = some (some 0)
  snd : ∀ (v : Int) d, 0 ≤ v → fr.1[v.toNat]? = some (some d) → 0 ≤ d ∧ Wk (Nb nbL) d.toNat p v
  inr : ∀ (v : Int) d, 0 ≤ v → fr.1[v.toNat]? = some (some d) → v ∈ fr.2
  mon : fr.2.Pairwise (fun a b => dOf fr.1 a ≤ dOf fr.1 b)
def Top (fr : FR) (b : Int) : Prop := ∀ y ∈ fr.2, dOf fr.1 y ≤ b
def Cls (nbL : List (List Int)) (fr : FR) (x : Int) : Prop := ∀ y, Nb nbL x y → ∃ e, fr.1[y.toNat]? = some (some e) ∧ e ≤ dOf fr.1 x + 1
theorem Cls.ext {nbL : List (List Int)} {fr gr : FR} {x : Int} (h : Cls nbL fr x) (e : ExtF fr.1 gr.1) {d : Int} (hx : fr.1[x.toNat]? = some (some d)) : Cls nbL gr x := fun y hy => by
  obtain ⟨c, h1, h2⟩ := h y hy
  refine ⟨c, e _ _ h1, ?_⟩
  rw [dOf_eq hx] at h2
  rw [dOf_eq (e _ _ hx)]
  exact h2
theorem bstep_ext {n : Nat} {fr : FR} (h : BI n fr) {d o : Int} (h1 : o.toNat < n) : ExtF fr.1 (bstep d fr o).1 := fun v e hv => by
  have := step_keep h (d := d) (o := o) (x := (v : Int)) (e := e) (by simpa using hv) h1
  simpa using this
theorem step_BV {nbL : List (List Int)} {p : Int} {fr : FR} (B : BV nbL p fr) {x d o : Int} (hx : fr.1[x.toNat]? = some (some d)) (x0 : 0 ≤ x) (T : Top fr (d + 1)) (hR : Nb nbL x o) (o0 : 0 ≤ o) (o1 : o < nbL.length) :
    BV nbL p (bstep d fr o) ∧ Top (bstep d fr o) (d + 1) ∧ ∃ e, (bstep d fr o).1[o.toNat]? = some (some e) ∧ e ≤ d + 1 := by
  have bi := B.bi.step (d := d) o0 o1
  have ext := bstep_ext B.bi (d := d) (o := o) (by omega)
  have hl := B.bi.len
  by_cases c : fr.1.getD o.toNat (some 0) = none
  · have c2 := (getD_none (by omega)).mp c
    have eb : bstep d fr o = (fr.1.set o.toNat (some (d + 1)), fr.2 ++ [o]) := by
      unfold bstep
      rw [if_pos c]
    have new : (bstep d fr o).1[o.toNat]? = some (some (d + 1)) := by
      rw [eb]
      show (fr.1.set o.toNat (some (d + 1)))[o.toNat]? = _
      rw [List.getElem?_set, if_pos rfl, if_pos (by omega)]
    have old : ∀ (v : Int), 0 ≤ v → v ≠ o → ∀ e, (bstep d fr o).1[v.toNat]? = some (some e) → fr.1[v.toNat]? = some (some e) := fun v v0 ne e h => by
      rw [eb] at h
      have h : (fr.1.set o.toNat (some (d + 1)))[v.toNat]? = some (some e) := h
      rw [List.getElem?_set, if_neg (by omega)] at h
      exact h
    have row2 : (bstep d fr o).2 = fr.2 ++ [o] := by rw [eb]
    have dsame : ∀ y ∈ fr.2, dOf (bstep d fr o).1 y = dOf fr.1 y := fun y hy => by
      obtain ⟨_, _, e, he⟩ := B.bi.row y hy
      rw [dOf_eq he, dOf_eq (ext _ _ he)]
    refine ⟨⟨bi, ext _ _ B.p0, fun v e v0 h => ?_, fun v e v0 h => ?_, ?_⟩, fun y hy => ?_, d + 1, new, Int.le_refl _⟩
    · by_cases ev : v = o
      · subst ev
        rw [new] at h
        have e1 : d + 1 = e := Option.some.inj (Option.some.inj h)
        obtain ⟨d0, wk⟩ := B.snd x d x0 hx
        refine ⟨by omega, ?_⟩
        rw [← e1, show (d + 1).toNat = d.toNat + 1 by omega]
        exact .snoc wk hR
      · exact B.snd v e v0 (old v v0 ev e h)
    · rw [row2]
      by_cases ev : v = o
      · subst ev
        exact List.mem_append.mpr (.inr (by simp))
      · exact List.mem_append.mpr (.inl (B.inr v e v0 (old v v0 ev e h)))
    · rw [row2]
      refine List.pairwise_append.mpr ⟨List.Pairwise.imp_of_mem (fun {a b} ha hb q => ?_) B.mon, List.pairwise_singleton _ _, fun a ha b hb => ?_⟩
      · rw [dsame a ha, dsame b hb]
        exact q
      · have e : b = o := by simpa using hb
        subst e
        rw [dsame a ha, dOf_eq new]
        exact T a ha
    · rw [row2] at hy
      rcases List.mem_append.mp hy with hy | hy
      · rw [dsame y hy]
        exact T y hy
      · have e : y = o := by simpa using hy
        subst e
        rw [dOf_eq new]
        omega
  · have eb : bstep d fr o = fr := by
      unfold bstep
      rw [if_neg c]
    rw [eb]
    obtain ⟨w, hw⟩ := getn (l := fr.1) (i := o.toNat) (by omega)
    cases w with
    | none => exact absurd ((getD_none (by omega)).mpr hw) c
    | some e =>
      refine ⟨B, T, e, hw, ?_⟩
      have := T o (B.inr o e o0 hw)
      rw [dOf_eq hw] at this
      exact this
theorem fold_BV {nbL : List (List Int)} {p x d : Int} (x0 : 0 ≤ x) : ∀ (os : List Int) {fr : FR}, BV nbL p fr → fr.1[x.toNat]? = some (some d) → Top fr (d + 1) → (∀ o ∈ os, Nb nbL x o ∧ 0 ≤ o ∧ o < nbL.length) →
    BV nbL p (os.foldl (bstep d) fr) ∧ Top (os.foldl (bstep d) fr) (d + 1) ∧ ExtF fr.1 (os.foldl (bstep d) fr).1 ∧ (∀ o ∈ os, ∃ e, (os.foldl (bstep d) fr).1[o.toNat]? = some (some e) ∧ e ≤ d + 1) ∧ ∃ more, (os.foldl (bstep d) fr).2 = fr.2 ++ more
  | [], fr, B, hx, T, _ => ⟨B, T, fun _ _ h => h, fun o h => by simp at h, [], by simp⟩
  | o :: os, fr, B, hx, T, ho => by
    obtain ⟨r, o0, o1⟩ := ho o List.mem_cons_self
    obtain ⟨B1, T1, e, he, hle⟩ := step_BV B hx x0 T r o0 o1
    have ext1 := bstep_ext B.bi (d := d) (o := o) (by omega)
    obtain ⟨B2, T2, ext2, hc, more, hm⟩ := fold_BV x0 os B1 (ext1 _ _ hx) T1 (fun o' q => ho o' (List.mem_cons_of_mem _ q))
    refine ⟨B2, T2, fun v d' q => ext2 _ _ (ext1 _ _ q), fun o' q => ?_, ?_⟩
    · rcases List.mem_cons.mp q with q | q
      · subst q
        exact ⟨e, ext2 _ _ he, hle⟩
      · exact hc o' q
    · show ∃ more, (os.foldl (bstep d) (bstep d fr o)).2 = fr.2 ++ more
      rw [hm]
      unfold bstep
      split
      · exact ⟨[o] ++ more, by simp⟩
      · exact ⟨more, rfl⟩
/-- what stands at the end: closed under steps -/
theorem bfs_end {nbL : List (List Int)} {p : Int} (hin : ∀ ns ∈ nbL, ∀ x ∈ ns, 0 ≤ x ∧ x < nbL.length) : ∀ (k : Nat) (fr : FR) (a : Nat), k + a = nbL.length + 1 → BV nbL p fr → (∀ x, fr.2[a]? = some x → Top fr (dOf fr.1 x + 1)) → (∀ i x, i < a → fr.2[i]? = some x → Cls nbL fr x) →
    ∃ gr : FR, bfs nbL k fr a = gr.1 ∧ BV nbL p gr ∧ ∀ x ∈ gr.2, Cls nbL gr x
  | 0, fr, a, hk, B, T, C => by
    refine ⟨fr, rfl, B, fun x hx => ?_⟩
    obtain ⟨i, hi, e⟩ := List.mem_iff_getElem.mp hx
    have := B.bi.cnt
    exact C i x (by omega) (List.getElem?_eq_some_iff.mpr ⟨hi, e⟩)
  | k + 1, fr, a, hk, B, T, C => by
    show ∃ gr : FR, (match fr.2[a]? with | none => fr.1 | some x => bfs nbL k (bturn nbL fr x) (a + 1)) = gr.1 ∧ _
    cases hx : fr.2[a]? with
    | none =>
      refine ⟨fr, rfl, B, fun x hx' => ?_⟩
      obtain ⟨i, hi, e⟩ := List.mem_iff_getElem.mp hx'
      have := List.getElem?_eq_none_iff.mp hx
      exact C i x (by omega) (List.getElem?_eq_some_iff.mpr ⟨hi, e⟩)
    | some x =>
      obtain ⟨x0, x1, d, hd⟩ := B.bi.row x (List.mem_of_getElem? hx)
      obtain ⟨ns, hns⟩ := getn (l := nbL) (i := x.toNat) (by omega)
      have hT := T x hx
      rw [dOf_eq hd] at hT
      have et : bturn nbL fr x = ns.foldl (bstep d) fr := by
        unfold bturn
        rw [List.getD_eq_getElem?_getD, hns, dOf_eq hd]
        rfl
      obtain ⟨B2, T2, ext, hc, more, hm⟩ := fold_BV (nbL := nbL) (p := p) x0 ns B hd hT fun o ho => ⟨⟨ns, hns, ho⟩, hin ns (List.mem_of_getElem? hns) o ho⟩
      rw [← et] at B2 T2 ext hc hm
      have keep : ∀ (i : Nat) z, fr.2[i]? = some z → (bturn nbL fr x).2[i]? = some z := fun i z h => by
        rw [hm, List.getElem?_append_left (List.getElem?_eq_some_iff.mp h).1]
        exact h
      refine bfs_end hin k _ (a + 1) (by omega) B2 (fun y hy z hz => ?_) (fun i y hi hy => ?_)
      · have hxy : dOf (bturn nbL fr x).1 x ≤ dOf (bturn nbL fr x).1 y := by
          obtain ⟨ha, ea⟩ := List.getElem?_eq_some_iff.mp (keep a x hx)
          obtain ⟨hb, eb⟩ := List.getElem?_eq_some_iff.mp hy
          have := List.pairwise_iff_getElem.mp B2.mon a (a + 1) ha hb (by omega)
          rw [ea, eb] at this
          exact this
        rw [dOf_eq (ext _ _ hd)] at hxy
        have := T2 z hz
        omega
      · rcases Nat.lt_or_ge i a with hlt | hge
        · obtain ⟨z, hz⟩ : ∃ z, fr.2[i]? = some z := getn (by have := (List.getElem?_eq_some_iff.mp hx).1; omega)
          have e := keep i z hz
          rw [hy] at e
          have e2 : y = z := Option.some.inj e
          subst e2
          obtain ⟨_, _, dy, hdy⟩ := B.bi.row y (List.mem_of_getElem? hz)
          exact (C i y hlt hz).ext ext hdy
        · have e : i = a := by omega
          subst e
          have e := keep i x hx
          rw [hy] at e
          have e2 : y = x := Option.some.inj e
          subst e2
          intro z hz
          obtain ⟨ns', hns', hz'⟩ := hz
          rw [hns] at hns'
          have e3 : ns = ns' := Option.some.inj hns'
          subst e3
          obtain ⟨c, h1, h2⟩ := hc z hz'
          refine ⟨c, h1, ?_⟩
          rw [dOf_eq (ext _ _ hd)]
          exact h2
theorem far0_BV {nbL : List (List Int)} {p : Int} (h0 : 0 ≤ p) (h1 : p < nbL.length) : BV nbL p (far0 nbL.length p) := by
  have bi := far0_ok (n := nbL.length) h0 h1
  have only : ∀ (v : Int) d, 0 ≤ v → (far0 nbL.length p).1[v.toNat]? = some (some d) → v = p ∧ d = 0 := fun v d v0 h => by
    have h : ((List.replicate nbL.length none).set p.toNat (some 0))[v.toNat]? = some (some d) := h
    rw [List.getElem?_set] at h
    split at h
    · rename_i e
      split at h
      · have := Option.some.inj (Option.some.inj h)
        omega
      · cases h
    · rw [List.getElem?_replicate] at h
      split at h
      · cases (Option.some.inj h)
      · cases h
  refine ⟨bi, ?_, fun v d v0 h => ?_, fun v d v0 h => ?_, List.pairwise_singleton _ _⟩
  · obtain ⟨_, _, d, hd⟩ := bi.row p (by simp [far0])
    rw [hd, (only p d h0 hd).2]
  · obtain ⟨rfl, rfl⟩ := only v d v0 h
    exact ⟨Int.le_refl _, .nil _⟩
  · obtain ⟨rfl, rfl⟩ := only v d v0 h
    simp [far0]
/-- THE LAW of distances -/
structure Far (R : Int → Int → Prop) (n : Nat) (p : Int) (f : List (Option Int)) : Prop where
  len : f.length = n
  some_ : ∀ (v : Int) d, 0 ≤ v → f[v.toNat]? = some (some d) → 0 ≤ d ∧ Wk R d.toNat p v ∧ ∀ k, Wk R k p v → d ≤ k
  none_ : ∀ (v : Int), 0 ≤ v → v < n → f[v.toNat]? = some none → ∀ k, ¬ Wk R k p v
theorem farL_far {nbL : List (List Int)} {p : Int} (hin : ∀ ns ∈ nbL, ∀ x ∈ ns, 0 ≤ x ∧ x < nbL.length) (h0 : 0 ≤ p) (h1 : p < nbL.length) : Far (Nb nbL) nbL.length p (farL nbL p) := by
  have T0 : ∀ x, (far0 nbL.length p).2[0]? = some x → Top (far0 nbL.length p) (dOf (far0 nbL.length p).1 x + 1) := fun x hx y hy => by
    have ex : x = p := by
      have hx : [p][0]? = some x := hx
      exact (Option.some.inj hx).symm
    have ey : y = p := by simpa [far0] using hy
    subst ex
    subst ey
    omega
  obtain ⟨gr, e, B, C⟩ := bfs_end (p := p) hin (nbL.length + 1) (far0 nbL.length p) 0 (by omega) (far0_BV h0 h1) T0 (fun i x hi => absurd hi (by omega))
  have reach : ∀ k v, Wk (Nb nbL) k p v → ∃ c, gr.1[v.toNat]? = some (some c) ∧ c ≤ k ∧ 0 ≤ v := by
    intro k
    induction k with
    | zero =>
      intro v h
      cases h
      exact ⟨0, B.p0, by omega, h0⟩
    | succ k ih =>
      intro v h
      cases h with
      | snoc a b =>
        rename_i y
        obtain ⟨c, hc, hle, y0⟩ := ih y a
        obtain ⟨c', hc', hle'⟩ := C y (B.inr y c y0 hc) v b
        rw [dOf_eq hc] at hle'
        refine ⟨c', hc', by omega, ?_⟩
        obtain ⟨ns, hns, hv⟩ := b
        exact (hin ns (List.mem_of_getElem? hns) v hv).1
  have ef : farL nbL p = gr.1 := e
  rw [ef]
  refine ⟨B.bi.len, fun v d v0 h => ?_, fun v v0 v1 h k wk => ?_⟩
  · obtain ⟨d0, wk⟩ := B.snd v d v0 h
    refine ⟨d0, wk, fun k wk' => ?_⟩
    obtain ⟨c, hc, hle, _⟩ := reach k v wk'
    rw [h] at hc
    have := Option.some.inj (Option.some.inj hc)
    omega
  · obtain ⟨c, hc, _⟩ := reach k v wk
    rw [h] at hc
    cases (Option.some.inj hc)
end G39

/-! Distances of webs that hang together; far links. -/
namespace G39
open PySem PySem.Spec PyProof.Rows L2
theorem nb_tie {n : Int} {ts : List (Int × Int)} (W : WebOk n ts) {x y : Int} (x0 : 0 ≤ x) (x1 : x < n) : Nb (nbl n ts) x y ↔ Tie ts x y := by
  have e : (nbl n ts)[x.toNat]? = some (nbs ts x) := by
    unfold nbl
    rw [List.getElem?_map, List.getElem?_range (by omega)]
    show some (nbs ts ((x.toNat : Nat) : Int)) = _
    rw [show ((x.toNat : Nat) : Int) = x by omega]
  unfold Nb Tie
  rw [e]
  constructor
  · rintro ⟨ns, h1, h2⟩
    have := Option.some.inj h1
    subst this
    exact (mem_nbs W).mp h2
  · intro h
    exact ⟨_, rfl, (mem_nbs W).mpr h⟩
theorem Tie.mem {n : Int} {ts : List (Int × Int)} (W : WebOk n ts) {x y : Int} (h : Tie ts x y) : (0 ≤ x ∧ x < n) ∧ 0 ≤ y ∧ y < n :=
  ⟨tieOf_mem W (k := y) (x := x) (by rw [tieOf_comm]; exact h), tieOf_mem W h⟩
theorem Wk.mem {n : Int} {ts : List (Int × Int)} (W : WebOk n ts) {k : Nat} {x y : Int} (h : Wk (Tie ts) k x y) (hx : 0 ≤ x ∧ x < n) : 0 ≤ y ∧ y < n := by
  cases h with
  | nil => exact hx
  | snoc a b => exact (Tie.mem W b).2
theorem wk_nb {n : Int} {ts : List (Int × Int)} (W : WebOk n ts) : ∀ {k : Nat} {x y : Int}, 0 ≤ x ∧ x < n → (Wk (Nb (nbl n ts)) k x y ↔ Wk (Tie ts) k x y)
  | 0, x, y, hx => by
    constructor
    · intro h
      cases h
      exact .nil _
    · intro h
      cases h
      exact .nil _
  | k + 1, x, y, hx => by
    constructor
    · intro h
      cases h with
      | snoc a b =>
        have a' := (wk_nb W hx).mp a
        have g := Wk.mem W a' hx
        exact .snoc a' ((nb_tie W g.1 g.2).mp b)
    · intro h
      cases h with
      | snoc a b =>
        have g := Wk.mem W a hx
        exact .snoc ((wk_nb W hx).mpr a) ((nb_tie W g.1 g.2).mpr b)
theorem dst_far {n : Int} {ts : List (Int × Int)} (W : WebOk n ts) {p : Int} (p0 : 0 ≤ p) (p1 : p < n) : Far (Tie ts) n.toNat p (dst n ts p) := by
  have h := farL_far (nbl_in W) p0 (show p < (nbl n ts).length by rw [nbl_len]; omega)
  rw [nbl_len] at h
  refine ⟨h.len, fun v d v0 e => ?_, fun v v0 v1 e k wk => ?_⟩
  · obtain ⟨d0, wk, mn⟩ := h.some_ v d v0 e
    exact ⟨d0, (wk_nb W ⟨p0, p1⟩).mp wk, fun k wk' => mn k ((wk_nb W ⟨p0, p1⟩).mpr wk')⟩
  · exact h.none_ v v0 v1 e k ((wk_nb W ⟨p0, p1⟩).mpr wk)
/-- d is the distance -/
def IsD (ts : List (Int × Int)) (x y d : Int) : Prop := 0 ≤ d ∧ Wk (Tie ts) d.toNat x y ∧ ∀ k, Wk (Tie ts) k x y → d ≤ k
theorem IsD.uniq {ts : List (Int × Int)} {x y d e : Int} (h : IsD ts x y d) (g : IsD ts x y e) : d = e := by
  have h1 := h.2.2 _ g.2.1
  have h2 := g.2.2 _ h.2.1
  have := h.1
  have := g.1
  omega
theorem IsD.symm {ts : List (Int × Int)} {x y d : Int} (h : IsD ts x y d) : IsD ts y x d :=
  ⟨h.1, h.2.1.rev (fun _ _ => Tie.symm), fun k w => h.2.2 k (w.rev (fun _ _ => Tie.symm))⟩
/-- the distance as a number -/
def dI (n : Int) (ts : List (Int × Int)) (x y : Int) : Int := ((dst n ts x).getD y.toNat none).getD 0
theorem dst_get {n : Int} {ts : List (Int × Int)} (W : WebOk n ts) (C : Conn n ts) {x y : Int} (x0 : 0 ≤ x) (x1 : x < n) (y0 : 0 ≤ y) (y1 : y < n) : (dst n ts x)[y.toNat]? = some (some (dI n ts x y)) ∧ IsD ts x y (dI n ts x y) := by
  have F := dst_far W x0 x1
  have hl := F.len
  obtain ⟨w, hw⟩ := getn (l := dst n ts x) (i := y.toNat) (by omega)
  cases w with
  | none =>
    obtain ⟨k, wk⟩ := C x x0 x1 y y0 y1
    exact absurd wk (F.none_ y y0 (by omega) hw k)
  | some d =>
    have e : dI n ts x y = d := by
      unfold dI
      rw [List.getD_eq_getElem?_getD, hw]
      rfl
    rw [e]
    exact ⟨hw, F.some_ y d y0 hw⟩
theorem dI_symm {n : Int} {ts : List (Int × Int)} (W : WebOk n ts) (C : Conn n ts) {x y : Int} (hx : 0 ≤ x ∧ x < n) (hy : 0 ≤ y ∧ y < n) : dI n ts x y = dI n ts y x :=
  (dst_get W C hx.1 hx.2 hy.1 hy.2).2.uniq (dst_get W C hy.1 hy.2 hx.1 hx.2).2.symm
theorem dI_self {n : Int} {ts : List (Int × Int)} (W : WebOk n ts) (C : Conn n ts) {x : Int} (hx : 0 ≤ x ∧ x < n) : dI n ts x x = 0 := by
  have h := (dst_get W C hx.1 hx.2 hx.1 hx.2).2
  have := h.2.2 0 (.nil x)
  have := h.1
  omega
theorem dI_pos {n : Int} {ts : List (Int × Int)} (W : WebOk n ts) (C : Conn n ts) {x y : Int} (hx : 0 ≤ x ∧ x < n) (hy : 0 ≤ y ∧ y < n) (ne : x ≠ y) : 1 ≤ dI n ts x y := by
  have h := (dst_get W C hx.1 hx.2 hy.1 hy.2).2
  have h0 := h.1
  by_cases e : dI n ts x y = 0
  · have w := h.2.1
    rw [e] at w
    cases w
    exact absurd rfl ne
  · omega
/-! together -/
def sp_together (K : PySem.W.Frag) : Sp := fun vs H Q _ => ∃ (v : V) (n : Int) (ts : List (Int × Int)), vs = [v] ∧ IsW H v n ts ∧ WebOk n ts ∧ Conn n ts ∧ ∀ H', Same H H' → Q (.bl true) H'
def t_together (K : PySem.W.Frag) : TS := (tRet (tOp (rIn K true) (tC .non) (tCall (sp_far_by K) [] E0 (tCons (tCall (sp_beside_all K) [] E0 (tCons (tVar 0) tNil)) (tCons (tC (.int 0)) tNil)))))
theorem flat_ov (f : List (Option Int)) : (f.map ov).all flatV = true := by
  rw [List.all_map, List.all_eq_true]
  intro x _
  cases x <;> rfl
theorem inV_ov (f : List (Option Int)) : inV .non (f.map ov) = decide (none ∈ f) := by
  unfold inV
  rw [List.any_map]
  induction f with
  | nil => simp
  | cons x f ih =>
    rw [List.any_cons, ih]
    cases x with
    | none => simp [ov, eqV]
    | some i => simp [ov, eqV]
theorem conn_all {n : Int} {ts : List (Int × Int)} (W : WebOk n ts) (C : Conn n ts) {p : Int} (p0 : 0 ≤ p) (p1 : p < n) : none ∉ dst n ts p := by
  intro h
  obtain ⟨i, hi, e⟩ := List.mem_iff_getElem.mp h
  have F := dst_far W p0 p1
  have hl := F.len
  obtain ⟨k, wk⟩ := C p p0 p1 (i : Int) (by omega) (by omega)
  refine F.none_ (i : Int) (by omega) (by omega) ?_ k wk
  rw [Int.toNat_natCast]
  exact List.getElem?_eq_some_iff.mpr ⟨hi, e⟩
theorem pure_together {K : PySem.W.Frag} {vs : List V} {H : Hp} {Q : VK} {E : XK} (h : sp_together K vs H Q E) : t_together K (Fin Q) (start ["web"] vs) H := by
  obtain ⟨v, n, ts, rfl, hw, W, C, q⟩ := h
  have := W.lo
  refine ⟨_, rfl, v, n, ts, rfl, hw, W, fun p bs H2 s2 np hp B nd fr => ?_⟩
  refine far_spec (K := K) (E := E0) W B hp (by decide) (by omega) fun f H3 nf s3 hf => ?_
  refine ⟨f, _, rfl, .inl (sql hf), rfl, flat_ov _, ?_⟩
  rw [inV_ov, decide_eq_false (conn_all W C (by decide) (by omega))]
  exact q H3 (s2.trans s3)
def sp_look_together (K : PySem.W.Frag) : Sp := fun vs H Q _ => ∃ (v : V) (n : Int) (ts : List (Int × Int)), vs = [v] ∧ IsW H v n ts ∧ WebOk n ts ∧ Conn n ts ∧ ∀ H', Same H H' → Q .non H'
def t_look_together (K : PySem.W.Frag) : TS := (tIfS (tNot (tB (tCall (sp_together K) [] E0 (tCons (tVar 0) tNil)))) tNever tNext)
theorem pure_look_together {K : PySem.W.Frag} {vs : List V} {H : Hp} {Q : VK} {E : XK} (h : sp_look_together K vs H Q E) : t_look_together K (Fin Q) (start ["web"] vs) H := by
  obtain ⟨v, n, ts, rfl, hw, W, C, q⟩ := h
  exact ⟨_, rfl, v, n, ts, rfl, hw, W, C, fun H1 s1 => ⟨_, rfl, iteF (q H1 s1)⟩⟩
/-! ties of a web -/
def sp_is_tie_in (K : PySem.W.Frag) : Sp := fun vs H Q _ => ∃ (v x : V) (n : Int) (ts : List (Int × Int)) (t : Int × Int), vs = [v, x] ∧ IsW H v n ts ∧ WebOk n ts ∧ Pr H x t ∧ t ∈ ts ∧ Q (.bl true) H
def t_is_tie_in (K : PySem.W.Frag) : TS := (tRet (tAndV (tCall (sp_is_tie K) [] E0 (tCons (tOp (rIxT K) (tVar 0) (tC (.int 0))) (tCons (tVar 1) tNil))) (tOp (rInD K) (tVar 1) (tOp (rIxT K) (tVar 0) (tC (.int 1))))))
theorem pure_is_tie_in {K : PySem.W.Frag} {vs : List V} {H : Hp} {Q : VK} {E : XK} (h : sp_is_tie_in K vs H Q E) : t_is_tie_in K (Fin Q) (start ["web", "thing"] vs) H := by
  obtain ⟨v, x, n, ts, t, rfl, ⟨p, a, rfl, hp, hP⟩, W, hx, ht, q⟩ := h
  have g := W.good t ht
  refine ⟨_, rfl, _, _, _, _, rfl, rfl, sqt hp, atI_nat (j := 0) rfl, _, rfl, n, x, t, rfl, hx, g.1, g.2.1, g.2.2, _, rfl, iteT ⟨_, rfl, _, rfl, _, _, _, _, rfl, rfl, sqt hp, atI_nat (j := 1) rfl, prD t, ts.map prD, hx.dp, hP.dp, shaped_pr _, shaped_prs _, ?_⟩⟩
  rw [any_prs, decide_eq_true ht]
  exact q
def sp_look_at_ties (K : PySem.W.Frag) : Sp := fun vs H Q _ => ∃ (v x y : V) (n : Int) (ts : List (Int × Int)) (t u : Int × Int), vs = [v, x, y] ∧ IsW H v n ts ∧ WebOk n ts ∧ Pr H x t ∧ t ∈ ts ∧ Pr H y u ∧ u ∈ ts ∧ Q .non H
def t_look_at_ties (K : PySem.W.Frag) : TS := (tIfS (tOr (tNot (tB (tCall (sp_is_tie_in K) [] E0 (tCons (tVar 0) (tCons (tVar 1) tNil))))) (tNot (tB (tCall (sp_is_tie_in K) [] E0 (tCons (tVar 0) (tCons (tVar 2) tNil)))))) tNever tNext)
theorem pure_look_at_ties {K : PySem.W.Frag} {vs : List V} {H : Hp} {Q : VK} {E : XK} (h : sp_look_at_ties K vs H Q E) : t_look_at_ties K (Fin Q) (start ["web", "tie", "other"] vs) H := by
  obtain ⟨v, x, y, n, ts, t, u, rfl, hw, W, hx, ht, hy, hu, q⟩ := h
  exact ⟨_, rfl, _, rfl, v, x, n, ts, t, rfl, hw, W, hx, ht, _, rfl, iteF ⟨_, rfl, _, rfl, v, y, n, ts, u, rfl, hw, W, hy, hu, _, rfl, iteF q⟩⟩
/-! dict of two lists -/
abbrev rDictPG (K : PySem.W.Frag) : List V → Hp → VK → Prop := fun xs H Q => ∃ (a : Addr) (ps : List Addr) (kvs : List (L2.Key × V)), xs = [.ref a] ∧ SqL K H a (ps.map V.ref) ∧ Paired (fun p kv => SqT K H p [kV kv.1, kv.2]) ps kvs ∧ Nw H (.dK (mergeK [] kvs)) Q
section
variable {X : Cx}
theorem cr_dictPG (hc : X.calm = true) : CallR X (.type "dict") (rDictPG X.K) := fun pins s σ H xs us Q I r h => by
  obtain ⟨a, ps, kvs, e1, e2, e3, q⟩ := h
  exact call_dictP hc pins s σ H xs us Q I r ⟨a, ps, kvs, e1, e2, e3, q.use⟩
end
/-- the two lists of distances stand in a dict -/
def Ends2 (H : Hp) (d : Addr) (n : Int) (ts : List (Int × Int)) (t : Int × Int) : Prop := ∃ la lb, H d = some (.dK [(Sum.inl t.1, .ref la), (Sum.inl t.2, .ref lb)]) ∧ H la = some (.lst ((dst n ts t.1).map ov)) ∧ H lb = some (.lst ((dst n ts t.2).map ov))
def sp_far_from_ends (K : PySem.W.Frag) : Sp := fun vs H Q _ => ∃ (bl : Addr) (bs : List Addr) (x : V) (n : Int) (ts : List (Int × Int)) (t : Int × Int), vs = [.ref bl, x] ∧ H bl = some (.lst (bs.map V.ref)) ∧ Bes H bs n ts ∧ WebOk n ts ∧ Pr H x t ∧ t ∈ ts ∧
  ∀ d H', Same H H' → Ends2 H' d n ts t → Q (.ref d) H'
def t_far_from_ends (K : PySem.W.Frag) : TS := (tRet (tCB (rDictPG K) (tCons (tLc (iTup K (tVar 1)) (gName 2) tYes (tTupG (tCons (tVar 2) (tCons (tCall (sp_far_by K) [] E0 (tCons (tVar 0) (tCons (tVar 2) tNil))) tNil))) [2]) tNil)))
theorem pure_far_from_ends {K : PySem.W.Frag} {vs : List V} {H : Hp} {Q : VK} {E : XK} (h : sp_far_from_ends K vs H Q E) : t_far_from_ends K (Fin Q) (start ["beside", "tie", "place"] vs) H := by
  obtain ⟨bl, bs, x, n, ts, t, rfl, hbl, B, W, ⟨b, rfl, hb⟩, ht, q⟩ := h
  have hsz : sizeLine = 16777216 := sizeLine_eq
  have g := W.good t ht
  refine ⟨_, rfl, b, rfl, ⟨_, sqt hb⟩, fun D nD => ?_⟩
  have pl : ∀ (i : Nat) v, ([V.int t.1, V.int t.2] : List V)[i]? = some v → ∃ z : Int, v = .int z ∧ z = [t.1, t.2].getD i 0 ∧ 0 ≤ z ∧ z < n := fun i v e => by
    match i, e with
    | 0, e => exact ⟨t.1, (Option.some.inj e).symm, rfl, by omega, by omega⟩
    | 1, e => exact ⟨t.2, (Option.some.inj e).symm, rfl, by omega, by omega⟩
  refine lc_tup (K := K) (a := b) (xs := [.int t.1, .int t.2]) (fun i H1 => ∃ (Ts Ls : List Addr), Same H H1 ∧ H1 D = some (.lst (Ts.map V.ref)) ∧ Ts.length = i ∧ Ls.length = i ∧
      ∀ (j : Nat) T L, Ts[j]? = some T → Ls[j]? = some L → H1 T = some (.tup [.int ([t.1, t.2].getD j 0), .ref L]) ∧ H1 L = some (.lst ((dst n ts ([t.1, t.2].getD j 0)).map ov)) ∧ L ≠ D)
    ⟨[], [], same_new nD, upd_same, rfl, rfl, fun j T L e => by simp at e⟩ (fun i H1 _ ⟨_, _, s1, _⟩ => sqt (s1 _ _ hb)) (fun i v H1 hv ⟨Ts, Ls, s1, hD1, hT, hL, hall⟩ => ?_) (fun H1 ⟨Ts, Ls, s1, hD1, hT, hL, hall⟩ => ?_)
  · obtain ⟨z, rfl, ez, z0, z1⟩ := pl i v hv
    refine ⟨rfl, _, rfl, _, rfl, _, rfl, far_spec (K := K) (E := E0) W (B.mono s1) (s1 _ _ hbl) z0 z1 fun L H2 nL s2 hL2 => ?_⟩
    refine ⟨by show 2 ≤ sizeLine; omega, fun T H3 nT s3 hT3 => ?_⟩
    have hD3 := s3 _ _ (s2 _ _ hD1)
    have nTD : T ≠ D := fun e => by
      rw [e, s2 _ _ hD1] at nT
      cases nT
    have nLD : L ≠ D := fun e => by
      rw [e, hD1] at nL
      cases nL
    have hi2 : i < 2 := (List.getElem?_eq_some_iff.mp hv).1
    refine ⟨_, hD3, by rw [List.length_map]; omega, Ts ++ [T], Ls ++ [L], same_mut (s1.trans (s2.trans s3)) nD, ?_, by rw [List.length_append]; show Ts.length + 1 = i + 1; omega, by rw [List.length_append]; show Ls.length + 1 = i + 1; omega, fun j T' L' e1 e2 => ?_⟩
    · rw [upd_same, List.map_append]
      rfl
    · rcases Nat.lt_or_ge j i with hj | hj
      · rw [List.getElem?_append_left (by omega)] at e1 e2
        obtain ⟨a1, a2, a3⟩ := hall j T' L' e1 e2
        have nT' : T' ≠ D := ne_of a1 hD1 (by intro z; cases z)
        exact ⟨by rw [upd_ne nT']; exact s3 _ _ (s2 _ _ a1), by rw [upd_ne a3]; exact s3 _ _ (s2 _ _ a2), a3⟩
      · have hlt := (List.getElem?_eq_some_iff.mp e1).1
        rw [List.length_append] at hlt
        have hlt : j < Ts.length + 1 := hlt
        have ej : j = i := by omega
        subst ej
        rw [List.getElem?_append_right (by omega), hT, Nat.sub_self] at e1
        rw [List.getElem?_append_right (by omega), hL, Nat.sub_self] at e2
        have q1 : T = T' := Option.some.inj e1
        have q2 : L = L' := Option.some.inj e2
        subst q1
        subst q2
        rw [← ez]
        exact ⟨by rw [upd_ne nTD]; exact hT3, by rw [upd_ne nLD]; exact s3 _ _ hL2, nLD⟩
  · match Ts, Ls, hT, hL with
    | [T0, T1], [L0, L1], _, _ =>
      obtain ⟨a1, a2, _⟩ := hall 0 T0 L0 rfl rfl
      obtain ⟨b1, b2, _⟩ := hall 1 T1 L1 rfl rfl
      refine ⟨D, [T0, T1], [(Sum.inl t.1, .ref L0), (Sum.inl t.2, .ref L1)], rfl, sql hD1, .cons (sqt a1) (.cons (sqt b1) .nil), fun d H2 nd s2 hd => q d H2 (s1.trans s2) ⟨L0, L1, ?_, s2 _ _ a2, s2 _ _ b2⟩⟩
      rw [hd]
      have e : mergeK [] [((Sum.inl t.1 : L2.Key), V.ref L0), (Sum.inl t.2, V.ref L1)] = [(Sum.inl t.1, V.ref L0), (Sum.inl t.2, V.ref L1)] := by
        show putK [((Sum.inl t.1 : L2.Key), V.ref L0)] (Sum.inl t.2) (V.ref L1) = _
        refine putK_new _ ?_
        refine valV_neg ?_
        intro z
        have := Sum.inl.inj z
        omega
      rw [e]
/-- far-linked by distances -/
def farB (n : Int) (ts : List (Int × Int)) (t u : Int × Int) : Bool := !decide (dI n ts t.1 u.1 + dI n ts t.2 u.2 = dI n ts t.1 u.2 + dI n ts t.2 u.1)
def sp_far_in (K : PySem.W.Frag) : Sp := fun vs H Q _ => ∃ (d : Addr) (x y : V) (n : Int) (ts : List (Int × Int)) (t u : Int × Int), vs = [.ref d, x, y] ∧ Ends2 H d n ts t ∧ WebOk n ts ∧ Conn n ts ∧ Pr H x t ∧ t ∈ ts ∧ Pr H y u ∧ u ∈ ts ∧ Q (.bl (farB n ts t u)) H
def t_far_in (K : PySem.W.Frag) : TS := (tSeq (tAsg (tVar 1) (gTup K 2 (gCons (gName 3) (gCons (gName 4) gNil))))
    (tSeq (tAsg (tVar 2) (gTup K 2 (gCons (gName 5) (gCons (gName 6) gNil))))
    (tRet (tOp rNe (tOp rAdd (tOp (rIxL K) (tDGet (tVar 0) (tVar 3)) (tVar 5)) (tOp (rIxL K) (tDGet (tVar 0) (tVar 4)) (tVar 6))) (tOp rAdd (tOp (rIxL K) (tDGet (tVar 0) (tVar 3)) (tVar 6)) (tOp (rIxL K) (tDGet (tVar 0) (tVar 4)) (tVar 5)))))))
theorem dst_at {n : Int} {ts : List (Int × Int)} (W : WebOk n ts) (C : Conn n ts) {x y : Int} (hx : 0 ≤ x ∧ x < n) (hy : 0 ≤ y ∧ y < n) : atI ((dst n ts x).map ov) y = some (.int (dI n ts x y)) :=
  at_of (j := y.toNat) (by omega) (ov_get (dst_get W C hx.1 hx.2 hy.1 hy.2).1)
theorem pure_far_in {K : PySem.W.Frag} {vs : List V} {H : Hp} {Q : VK} {E : XK} (h : sp_far_in K vs H Q E) : t_far_in K (Fin Q) (start ["table", "tie", "other", "one", "two", "here", "there"] vs) H := by
  obtain ⟨d, x, y, n, ts, t, u, rfl, ⟨la, lb, hd, hla, hlb⟩, W, C, ⟨b, rfl, hb⟩, ht, ⟨c, rfl, hc⟩, hu, q⟩ := h
  have g := W.good t ht
  have g' := W.good u hu
  have t1 : 0 ≤ t.1 ∧ t.1 < n := by omega
  have t2 : 0 ≤ t.2 ∧ t.2 < n := by omega
  have u1 : 0 ≤ u.1 ∧ u.1 < n := by omega
  have u2 : 0 ≤ u.2 ∧ u.2 < n := by omega
  have D1 : DGet H d (.int t.1) (some (.ref la)) := .inl ⟨_, Sum.inl t.1, .inl hd, rfl, by rw [valV_pos rfl]⟩
  have D2 : DGet H d (.int t.2) (some (.ref lb)) := .inl ⟨_, Sum.inl t.2, .inl hd, rfl, by
    rw [valV_neg (by intro z; have := Sum.inl.inj z; omega), valV_pos rfl]⟩
  refine ⟨_, rfl, b, _, rfl, sqt hb, rfl, _, _, rfl, _, _, rfl, rfl, ?_⟩
  refine ⟨_, rfl, c, _, rfl, sqt hc, rfl, _, _, rfl, _, _, rfl, rfl, ?_⟩
  refine ⟨_, rfl, _, rfl, d, _, rfl, D1, _, rfl, _, _, _, _, rfl, rfl, sql hla, dst_at W C t1 u1, _, rfl, _, rfl, d, _, rfl, D2, _, rfl, _, _, _, _, rfl, rfl, sql hlb, dst_at W C t2 u2, _, _, rfl, rfl,
    _, rfl, _, rfl, d, _, rfl, D1, _, rfl, _, _, _, _, rfl, rfl, sql hla, dst_at W C t1 u2, _, rfl, _, rfl, d, _, rfl, D2, _, rfl, _, _, _, _, rfl, rfl, sql hlb, dst_at W C t2 u1, _, _, rfl, rfl, rfl, ?_⟩
  have e : decide (V.int (dI n ts t.1 u.1 + dI n ts t.2 u.2) = V.int (dI n ts t.1 u.2 + dI n ts t.2 u.1)) = decide (dI n ts t.1 u.1 + dI n ts t.2 u.2 = dI n ts t.1 u.2 + dI n ts t.2 u.1) := by simp
  show Q (.bl (!decide (V.int (dI n ts t.1 u.1 + dI n ts t.2 u.2) = V.int (dI n ts t.1 u.2 + dI n ts t.2 u.1)))) H
  rw [e]
  exact q
theorem farB_symm {n : Int} {ts : List (Int × Int)} (W : WebOk n ts) (C : Conn n ts) {t u : Int × Int} (ht : t ∈ ts) (hu : u ∈ ts) : farB n ts u t = farB n ts t u := by
  have g := W.good t ht
  have g' := W.good u hu
  unfold farB
  rw [dI_symm W C (x := u.1) (y := t.1) (by omega) (by omega), dI_symm W C (x := u.2) (y := t.2) (by omega) (by omega), dI_symm W C (x := u.1) (y := t.2) (by omega) (by omega), dI_symm W C (x := u.2) (y := t.1) (by omega) (by omega), Int.add_comm (dI n ts t.2 u.1)]
theorem farB_self {n : Int} {ts : List (Int × Int)} (W : WebOk n ts) (C : Conn n ts) {t : Int × Int} (ht : t ∈ ts) : farB n ts t t = true := by
  have g := W.good t ht
  unfold farB
  rw [dI_self W C (x := t.1) (by omega), dI_self W C (x := t.2) (by omega)]
  have h1 := dI_pos W C (x := t.1) (y := t.2) (by omega) (by omega) (by omega)
  have h2 := dI_pos W C (x := t.2) (y := t.1) (by omega) (by omega) (by omega)
  rw [decide_eq_false (by omega)]
  rfl
def sp_is_far (K : PySem.W.Frag) : Sp := fun vs H Q _ => ∃ (v x y : V) (n : Int) (ts : List (Int × Int)) (t u : Int × Int), vs = [v, x, y] ∧ IsW H v n ts ∧ WebOk n ts ∧ Conn n ts ∧ Pr H x t ∧ t ∈ ts ∧ Pr H y u ∧ u ∈ ts ∧ ∀ H', Same H H' → Q (.bl (farB n ts t u)) H'
def t_is_far (K : PySem.W.Frag) : TS := (tSeq (tDrop (tCall (sp_look_at_web K) [] E0 (tCons (tVar 0) tNil)))
    (tSeq (tDrop (tCall (sp_look_together K) [] E0 (tCons (tVar 0) tNil)))
    (tSeq (tDrop (tCall (sp_look_at_ties K) [] E0 (tCons (tVar 0) (tCons (tVar 1) (tCons (tVar 2) tNil)))))
    (tRet (tCall (sp_far_in K) [] E0 (tCons (tCall (sp_far_from_ends K) [] E0 (tCons (tCall (sp_beside_all K) [] E0 (tCons (tVar 0) tNil)) (tCons (tVar 1) tNil))) (tCons (tVar 1) (tCons (tVar 2) tNil))))))))
theorem pure_is_far {K : PySem.W.Frag} {vs : List V} {H : Hp} {Q : VK} {E : XK} (h : sp_is_far K vs H Q E) : t_is_far K (Fin Q) (start ["web", "tie", "other"] vs) H := by
  obtain ⟨v, x, y, n, ts, t, u, rfl, hw, W, C, hx, ht, hy, hu, q⟩ := h
  refine ⟨_, rfl, v, n, ts, rfl, hw, W, fun H1 s1 => ?_⟩
  refine ⟨_, rfl, v, n, ts, rfl, hw.mono s1, W, C, fun H2 s2 => ?_⟩
  have s12 := s1.trans s2
  refine ⟨_, rfl, _, rfl, _, rfl, v, x, y, n, ts, t, u, rfl, hw.mono s12, W, hx.mono s12, ht, hy.mono s12, hu, ?_⟩
  refine ⟨_, rfl, v, n, ts, rfl, hw.mono s12, W, fun p bs H3 s3 np hp B nd fr => ?_⟩
  have s13 := s12.trans s3
  refine ⟨_, rfl, p, bs, x, n, ts, t, rfl, hp, B, W, hx.mono s13, ht, fun d H4 s4 E2 => ?_⟩
  have s14 := s13.trans s4
  exact ⟨_, rfl, _, rfl, d, x, y, n, ts, t, u, rfl, E2, W, C, hx.mono s14, ht, hy.mono s14, hu, q H4 s14⟩
end G39

/-! one_web; sorted(set(t)), t + u of tuples; filters; corners. -/
namespace G39
open PySem PySem.Spec PyProof.Rows L2
def sp_law_one_web (K : PySem.W.Frag) : Sp := fun vs H Q _ => ∃ (a : Addr) (ns : List Int) (k s : Int), vs = [.ref a, .int k, .int s] ∧ SqL K H a (ns.map V.int) ∧ 0 ≤ k ∧
  ∀ (n : Int) (ts : List (Int × Int)) (p a : Addr) (xs : List V) (H' : Hp), WebOk n ts → Conn n ts → Same H H' → H p = none → H a = none → H' p = some (.tup [.int n, .ref a]) → H' a = some (.lst xs) → Paired (Pr H') xs ts → Q (.ref p) H'
def t_law_one_web2 (K : PySem.W.Frag) : TS := (tRet (tCall (sp_law_web K) [] E0 (tCons (tCall (sp_law_cell_at K) [] E0 (tCons (tVar 0) (tCons (tOp rMul (tC (.int 2)) (tVar 1)) tNil))) (tCons (tVar 2) (tCons (tVar 4) (tCons (tVar 5) tNil))))))
def t_law_one_web (K : PySem.W.Frag) : TS := (tSeq (tAsg (tCall (sp_law_numbers K) [] E0 (tCons (tCall (sp_law_cell_at K) [] E0 (tCons (tVar 0) (tCons (tOp rAdd (tOp rMul (tC (.int 2)) (tVar 1)) (tC (.int 1))) tNil))) (tCons (tOp rAdd (tVar 2) (tC (.int 1))) (tCons (tLstG (tCons (tC (.int 8)) tNil)) tNil)))) (gName 3))
    (tSeq (tAsg (tOp (rIxL K) (tLstG (tCons (tTupG (tCons (tC (.int 9)) (tCons (tC (.int 6)) tNil))) (tCons (tTupG (tCons (tC (.int 40)) (tCons (tC (.int 81)) tNil))) tNil))) (tCB rInt1 (tCons (tAndV (tOp rEq (tOp (rIxL K) (tVar 3) (tC (.int 0))) (tC (.int 7))) (tOp rEq (tOp rMod (tVar 1) (tC (.int 4))) (tC (.int 0)))) tNil))) (gTup K 2 (gCons (gName 4) (gCons (gName 5) gNil))))
    (t_law_one_web2 K)))
theorem pure_law_one_web {K : PySem.W.Frag} {vs : List V} {H : Hp} {Q : VK} {E : XK} (h : sp_law_one_web K vs H Q E) : t_law_one_web K (Fin Q) (start ["_law_script", "_law_k", "_law_salt", "_law_head", "_law_most", "_law_more"] vs) H := by
  obtain ⟨a, ns, k, s, rfl, ha, k0, q⟩ := h
  have hsz : sizeLine = 16777216 := sizeLine_eq
  refine ⟨_, rfl, _, rfl, _, _, rfl, rfl, .inl ⟨by decide, by decide⟩, _, _, rfl, rfl, a, ns, 2 * k + 1, rfl, ha, by omega, fun o => ?_⟩
  refine ⟨_, rfl, _, _, rfl, rfl, by show 1 ≤ sizeLine; omega, fun l1 H1 nl1 s1 hl1 => ?_⟩
  refine ⟨o, s + 1, l1, [8], rfl, hl1, fun z hz => by simp at hz; omega, by decide, fun ds hd H2 D nhd s2 hhd => ?_⟩
  obtain ⟨h0, rfl⟩ : ∃ h0, ds = [h0] := by
    match ds, D with
    | [x], _ => exact ⟨x, rfl⟩
  refine ⟨by show 2 ≤ sizeLine; omega, fun T1 H3 nT1 s3 hT1 => ?_⟩
  refine ⟨by show 2 ≤ sizeLine; omega, fun T2 H4 nT2 s4 hT2 => ?_⟩
  refine ⟨by show 2 ≤ sizeLine; omega, fun l2 H5 nl2 s5 hl2 => ?_⟩
  have sA : Same H H5 := s1.trans (s2.trans (s3.trans (s4.trans s5)))
  have hhd5 : H5 hd = some (.lst [.int h0]) := s5 _ _ (s4 _ _ (s3 _ _ hhd))
  have hT15 := s5 _ _ (s4 _ _ hT1)
  have hT25 := s5 _ _ hT2
  have fin : ∀ most more : Int, 1 ≤ most → most ≤ 40 → 0 ≤ more → most - 1 + more ≤ 120 → t_law_one_web2 K (Fin Q) [some (.ref a), some (.int k), some (.int s), some (.ref hd), some (.int most), some (.int more)] H5 := fun most more m1 m2 m3 m4 => by
    refine ⟨_, rfl, _, rfl, _, _, rfl, rfl, .inl ⟨by decide, by decide⟩, a, ns, 2 * k, rfl, sA.seq ha, by omega, fun c => ?_⟩
    exact ⟨_, rfl, _, rfl, _, rfl, c, s, most, more, rfl, m1, m2, m3, m4, fun n ts p b xs H1 W _ C e1 e2 e3 e4 e5 e6 => q n ts p b xs H1 W C (sA.trans e1) (sA.free e2) (sA.free e3) e4 e5 e6⟩
  have go : ∀ b : Bool, ∃ T most more, atI [V.ref T1, V.ref T2] (if b then 1 else 0) = some (.ref T) ∧ H5 T = some (.tup [.int most, .int more]) ∧ t_law_one_web2 K (Fin Q) [some (.ref a), some (.int k), some (.int s), some (.ref hd), some (.int most), some (.int more)] H5 := fun b => by
    cases b
    · exact ⟨T1, 9, 6, rfl, hT15, fin 9 6 (by decide) (by decide) (by decide) (by decide)⟩
    · exact ⟨T2, 40, 81, rfl, hT25, fin 40 81 (by decide) (by decide) (by decide) (by decide)⟩
  refine ⟨_, rfl, _, _, _, _, rfl, rfl, sql hhd5, atI_nat (j := 0) rfl, rfl, _, rfl, ?_⟩
  refine ite2 (fun _ => ?_) (fun _ => ?_)
  · refine ⟨_, rfl, _, _, rfl, rfl, by show (0 : Int) < 4; decide, rfl, .inr ⟨_, rfl, ?_⟩⟩
    obtain ⟨T, most, more, e1, e2, e3⟩ := go (decide (V.int (k % 4) = V.int 0))
    exact ⟨_, _, _, _, rfl, rfl, sql hl2, e1, T, _, rfl, sqt e2, rfl, _, _, rfl, _, _, rfl, rfl, e3⟩
  · refine .inr ⟨_, rfl, ?_⟩
    obtain ⟨T, most, more, e1, e2, e3⟩ := go false
    exact ⟨_, _, _, _, rfl, rfl, sql hl2, e1, T, _, rfl, sqt e2, rfl, _, _, rfl, _, _, rfl, rfl, e3⟩
abbrev sqT : List (Int × Int) := [(0, 1), (0, 2), (1, 3), (2, 3)]
theorem sq_ok : WebOk 4 sqT := by
  refine ⟨by decide, by decide, by decide, by decide, ?_⟩
  simp [ltT]
theorem sq_conn : Conn 4 sqT := by
  have st : ∀ x y : Int, tieOf x y ∈ sqT → Wk (Tie sqT) 1 x y := fun x y h => .snoc (.nil _) h
  have all : ∀ x : Int, 0 ≤ x → x < 4 → ∃ k, Wk (Tie sqT) k 0 x := fun x x0 x1 => by
    have c : x = 0 ∨ x = 1 ∨ x = 2 ∨ x = 3 := by omega
    rcases c with rfl | rfl | rfl | rfl
    · exact ⟨0, .nil _⟩
    · exact ⟨1, st 0 1 (by decide)⟩
    · exact ⟨1, st 0 2 (by decide)⟩
    · exact ⟨2, (st 0 1 (by decide)).trans (st 1 3 (by decide))⟩
  intro x x0 x1 y y0 y1
  obtain ⟨k, w⟩ := all x x0 x1
  obtain ⟨j, v⟩ := all y y0 y1
  exact ⟨k + j, (w.rev (fun _ _ => Tie.symm)).trans v⟩

/-! ### tuples put together; sorted(set(t)) -/
abbrev rCatTG (K : PySem.W.Frag) : R2 := fun x y H Q => ∃ a b xs ys, x = .ref a ∧ y = .ref b ∧ SqT K H a xs ∧ SqT K H b ys ∧ xs ≠ [] ∧ ys ≠ [] ∧ xs.length + ys.length ≤ sizeLine ∧ Nw H (.tup (xs ++ ys)) Q
abbrev rSetTI (K : PySem.W.Frag) (w : World) : List V → Hp → VK → Prop := fun vs H Q => ∃ (a : Addr) (ns : List Int), vs = [.ref a] ∧ SqT K H a (ns.map V.int) ∧ ns.length < 63 ∧ ∀ p c, H p = none → c ≤ ns.length → Q (.ref p) (upd H p (SetO w p (fun j => decide (j ∈ ns)) c))
def tSortSetT (K : PySem.W.Frag) (t : TA) : TE := fun σ H Q => t σ H fun vs H1 => ∃ (a : Addr) (ns : List Int), vs = [.ref a] ∧ SqT K H1 a (ns.map V.int) ∧ ns.length < 63 ∧
  ∀ (ms : List Int), ms.Pairwise (· < ·) → (∀ k : Int, k ∈ ms ↔ k ∈ ns) → Nw H1 (.lst (ms.map V.int)) Q
section
variable {X : Cx}
theorem op_catTG : OpR X (binaryOp .Add) (rCatTG X.K) := fun pins s σ H x y u v Q I rx ry h => by
  obtain ⟨a, b, xs, ys, e1, e2, e3, e4, e5, e6, e7, q⟩ := h
  exact op_catT pins s σ H x y u v Q I rx ry ⟨a, b, xs, ys, e1, e2, e3, e4, e5, e7, fun z => absurd z e6, fun _ => q.use⟩
theorem cr_setTI (hc : X.calm = true) : CallR X (.type "set") (rSetTI X.K X.w) := by
  intro pins s σ H xs us Q I r h
  obtain ⟨l, ns, rfl, hl, hf, q⟩ := h
  rw [Vals.ref1 r]
  obtain ⟨its, rv, pl, hz⟩ := I.tuple hl
  have hn : H s.heap.objs.size = none := I.hok.fresh (Nat.le_refl _)
  refine call_set_tupI ns (I.ok.hd hc) pl (by simpa using intsAre_of rv) (by unfold scanBound; omega) fun h' tk c R g k => ?_
  exact ⟨.ref s.heap.objs.size, upd H s.heap.objs.size (SetO X.w s.heap.objs.size (fun j => decide (j ∈ ns)) c), I.laid (t' := tk) k (Nat.le_refl _) (setO_new R), rfl, q _ c hn g⟩
def tMonoA (t : TA) : TA := fun σ H Q => ∃ R : List V → Hp → Prop, t σ H R ∧ ∀ vs H1, R vs H1 → Q vs H1
theorem pa_mono {es : List Expr} {t : TA} (h : PA X es t) : PA X es (tMonoA t) := ⟨fun pos pins s σ H Q I ⟨R, h1, h2⟩ => thn (h.run pos pins s σ H R I h1) fun us s1 ⟨vs, H1, I1, r1, q1⟩ => ⟨vs, H1, I1, r1, h2 _ _ q1⟩⟩
theorem pe_sortSetT {e : Expr} {t : TA} {p p' pos pos' : Pos} (hc : X.calm = true) (hm : X.mg "sorted" = none) (hm' : X.mg "set" = none) (hg : Gl X "sorted") (hg' : Gl X "set") (ha : PA X [e] t)
    (he : starEach [e] X.env = (false, eval e X.env) :: starEach [] X.env := by rfl)
    (he2 : starEach [Expr.Call (.Name "set" p') [e] [] pos'] X.env = (false, eval (Expr.Call (.Name "set" p') [e] [] pos') X.env) :: starEach [] X.env := by rfl) : PE X (.Call (.Name "sorted" p) [.Call (.Name "set" p') [e] [] pos'] [] pos) (tSortSetT X.K t) := by
  have h1 : PE X (.Call (.Name "set" p') [e] [] pos') (tCB (rSetTI X.K X.w) (tMonoA t)) := pe_callTy (cr_setTI hc) hg' hm' (by decide +kernel) (pa_mono ha) (by decide) (by decide) he
  have h2 : PE X (.Call (.Name "sorted" p) [.Call (.Name "set" p') [e] [] pos'] [] pos) (tCB (rSortedSet X.w) (tCons (tCB (rSetTI X.K X.w) (tMonoA t)) tNil)) := pe_callB (cr_sortedSet hc) hg hm (by decide +kernel) (pa_cons h1 pa_nil he2) (by decide) (by decide) he2
  refine ⟨fun pins s σ H Q I h => h2.run pins s σ H Q I ?_⟩
  refine ⟨_, h, fun vs H1 ⟨a, ns, e1, e2, e3, q⟩ => ⟨a, ns, e1, e2, e3, fun p c np hcn => ?_⟩⟩
  refine ⟨p, _, c, rfl, upd_same, by omega, fun ms b so mem _ nb => ?_⟩
  refine q ms so (fun k => by rw [mem k]; simp) b _ ?_ ?_ upd_same
  · exact (same_new np).free nb
  · exact (same_new np).trans (same_new nb)
end
end G39

/-! Corners: filters over ints, corner_in, is_corner. -/
namespace G39
open PySem PySem.Spec PyProof.Rows L2
theorem flat_ints (f : List Int) : (f.map V.int).all flatV = true := by
  rw [List.all_map, List.all_eq_true]
  intro x _
  rfl
theorem inV_int (z : Int) (ns : List Int) : inV (.int z) (ns.map V.int) = decide (z ∈ ns) := by
  unfold inV
  rw [List.any_map]
  induction ns with
  | nil => simp
  | cons x f ih =>
    rw [List.any_cons, ih]
    by_cases e : x = z
    · subst e
      simp [eqV]
    · have e' : ¬ z = x := fun h => e h.symm
      simp [eqV, e, e']
theorem filt_eq (ns : List Int) (q : Int → Bool) : ((List.range ns.length).filter (fun i => q (ns.getD i 0))).map (fun i => V.int (ns.getD i 0)) = (ns.filter q).map V.int := by
  have e : ns = (List.range ns.length).map (fun i => ns.getD i 0) := by
    refine List.ext_getElem (by simp) fun i h1 h2 => ?_
    simp [h1]
  have e2 : ns.filter q = ((List.range ns.length).filter (fun i => q (ns.getD i 0))).map (fun i => ns.getD i 0) := by
    conv => lhs; rw [e, List.filter_map]
    rfl
  rw [e2, List.map_map]
  rfl
section
variable {J : It} {G : Hp → Prop} {g : TG} {tt : TT} {te : TE} {vs : List Nat} {σ : L2.St} {H1 : Hp} {D : Addr} {Qd : Hp → Prop} {ns : List Int}
/-- the ints of a list or tuple that pass a test -/
theorem lc_filt (w : Walk J (ns.map V.int).length G (YAt (ns.map V.int))) (nD : H1 D = none) (q : Int → Bool) (hn : ns.length < sizeLine) (hG : ∀ H, Same H1 H → G H)
    (hs : ∀ (z : Int) (H : Hp) (Nx : V → Hp → Prop) (Ny : Hp → Prop), z ∈ ns → Same H1 H → (q z = true → ∀ H4, Same H H4 → Nx (.int z) H4) → (q z = false → ∀ H3, Same H H3 → Ny H3) →
      g (.int z) (wipe σ vs) H fun σ2 H2 => wipe σ2 vs = wipe σ vs ∧ tt σ2 H2 fun b H3 => if b = true then te σ2 H3 Nx else Ny H3)
    (hd : ∀ H, Same H1 H → H D = some (.lst ((ns.filter q).map V.int)) → Qd H) :
    ∃ W : Nat → Nat → Hp → Prop, (∃ m, W 0 m (upd H1 D (.lst []))) ∧ ∀ i m H, W i m H →
      (J.stop i H ∧ Qd H) ∨ (J.go i H ∧ ∃ Nx : Hp → Prop, (∀ H', Nx H' → ∃ m', m' < m ∧ W (i + 1) m' H') ∧ ∀ x H', J.yld i H x H' → g x (wipe σ vs) H' fun σ2 H2 => wipe σ2 vs = wipe σ vs ∧ tt σ2 H2 fun b H3 =>
        if b = true then te σ2 H3 fun y H4 => ∃ acc, H4 D = some (.lst acc) ∧ acc.length < sizeLine ∧ Nx (upd H4 D (.lst (acc ++ [y]))) else Nx H3) := by
  refine lc_pure w nD (fun i => V.int (ns.getD i 0)) (fun i => q (ns.getD i 0)) (by rw [List.length_map]; exact hn) hG (fun i x H H' Nx Ny hi s1 y hx hy => ?_) fun H s1 hD => hd H s1 ?_
  · obtain ⟨rfl, e⟩ := y
    rw [List.length_map] at hi
    rw [List.getElem?_map, List.getElem?_eq_getElem hi] at e
    have e : V.int ns[i] = x := Option.some.inj e
    subst e
    have ez : ns.getD i 0 = ns[i] := by simp [hi]
    rw [ez] at hx hy
    exact hs ns[i] H' Nx Ny (List.getElem_mem hi) s1 hx hy
  · rw [hD, List.length_map, filt_eq]
end
/-- the shared place of two ties and the others -/
def mid (t u : Int × Int) : Option (Int × Int × Int) :=
  if t.1 = u.1 then (if t.2 = u.2 then none else some (t.2, u.2, t.1))
  else if t.1 = u.2 then some (t.2, u.1, t.1) else if t.2 = u.1 then some (t.1, u.2, t.2) else if t.2 = u.2 then some (t.1, u.1, t.2) else none
theorem mid_cases {t u : Int × Int} (gt : t.1 < t.2) (gu : u.1 < u.2) :
    (mid t u = none ∧ ((t.1 = u.1 ∧ t.2 = u.2) ∨ (t.1 ≠ u.1 ∧ t.1 ≠ u.2 ∧ t.2 ≠ u.1 ∧ t.2 ≠ u.2))) ∨
    (∃ a b m, mid t u = some (a, b, m) ∧ a ≠ b ∧ a ≠ m ∧ b ≠ m ∧ ((t.1 = a ∧ t.2 = m) ∨ (t.1 = m ∧ t.2 = a)) ∧ ((u.1 = b ∧ u.2 = m) ∨ (u.1 = m ∧ u.2 = b))) := by
  unfold mid
  by_cases h1 : t.1 = u.1
  · by_cases h2 : t.2 = u.2
    · left; rw [if_pos h1, if_pos h2]; exact ⟨rfl, .inl ⟨h1, h2⟩⟩
    · right; rw [if_pos h1, if_neg h2]; exact ⟨_, _, _, rfl, h2, by omega, by omega, .inr ⟨rfl, rfl⟩, .inr ⟨h1.symm, rfl⟩⟩
  · rw [if_neg h1]
    by_cases h2 : t.1 = u.2
    · right; rw [if_pos h2]; exact ⟨_, _, _, rfl, by omega, by omega, by omega, .inr ⟨rfl, rfl⟩, .inl ⟨rfl, h2.symm⟩⟩
    · rw [if_neg h2]
      by_cases h3 : t.2 = u.1
      · right; rw [if_pos h3]; exact ⟨_, _, _, rfl, by omega, by omega, by omega, .inl ⟨rfl, rfl⟩, .inr ⟨h3.symm, rfl⟩⟩
      · rw [if_neg h3]
        by_cases h4 : t.2 = u.2
        · right; rw [if_pos h4]; exact ⟨_, _, _, rfl, h1, by omega, by omega, .inl ⟨rfl, rfl⟩, .inl ⟨rfl, h4.symm⟩⟩
        · left; rw [if_neg h4]; exact ⟨rfl, .inr ⟨h1, h2, h3, h4⟩⟩
theorem mid_symm {t u : Int × Int} (gt : t.1 < t.2) (gu : u.1 < u.2) : mid u t = (mid t u).map fun p => (p.2.1, p.1, p.2.2) := by
  rcases mid_cases gt gu with ⟨e, h⟩ | ⟨a, b, m, e, h1, h2, h3, h4, h5⟩
  · rw [e]
    rcases mid_cases gu gt with ⟨e', _⟩ | ⟨a', b', m', _, k1, k2, k3, k4, k5⟩
    · rw [e']; rfl
    · exfalso
      omega
  · rw [e]
    rcases mid_cases gu gt with ⟨e', h'⟩ | ⟨a', b', m', e', k1, k2, k3, k4, k5⟩
    · exfalso
      omega
    · rw [e']
      have q1 : a' = b := by omega
      have q2 : b' = a := by omega
      have q3 : m' = m := by omega
      rw [q1, q2, q3]
      rfl
def crn (n : Int) (ts : List (Int × Int)) (a b m : Int) : Bool := decide ((((List.range n.toNat).filter (fun i => decide (((i : Nat) : Int) ∈ nbs ts a) && decide (((i : Nat) : Int) ∈ nbs ts b))).map fun i => ((i : Nat) : Int)) = [m])
theorem crn_symm (n : Int) (ts : List (Int × Int)) (a b m : Int) : crn n ts b a m = crn n ts a b m := by
  unfold crn
  have e : (fun i : Nat => decide (((i : Nat) : Int) ∈ nbs ts b) && decide (((i : Nat) : Int) ∈ nbs ts a)) = fun i : Nat => decide (((i : Nat) : Int) ∈ nbs ts a) && decide (((i : Nat) : Int) ∈ nbs ts b) := funext fun i => Bool.and_comm _ _
  rw [e]
theorem both_eq {n : Int} {ts : List (Int × Int)} (W : WebOk n ts) (a b : Int) : (nbs ts a).filter (fun z => decide (z ∈ nbs ts b)) = ((List.range n.toNat).filter (fun i => decide (((i : Nat) : Int) ∈ nbs ts a) && decide (((i : Nat) : Int) ∈ nbs ts b))).map fun i => ((i : Nat) : Int) := by
  refine lt_uniq (List.Pairwise.filter _ (nbs_lt W a)) (List.pairwise_map.mpr (List.Pairwise.imp (fun {a b} h => by omega) (List.Pairwise.filter _ List.pairwise_lt_range))) fun x => ?_
  rw [List.mem_filter, List.mem_map]
  constructor
  · rintro ⟨h1, h2⟩
    have h2 : x ∈ nbs ts b := by simpa using h2
    have g := tieOf_mem W ((mem_nbs W).mp h1)
    refine ⟨x.toNat, List.mem_filter.mpr ⟨List.mem_range.mpr (by omega), ?_⟩, by omega⟩
    have e : ((x.toNat : Nat) : Int) = x := by omega
    rw [e]
    simp [h1, h2]
  · rintro ⟨i, hi, rfl⟩
    have := (List.mem_filter.mp hi).2
    simp at this
    exact ⟨this.1, by simpa using this.2⟩
def cornB (n : Int) (ts : List (Int × Int)) (t u : Int × Int) : Bool := match mid t u with
  | none => false
  | some p => crn n ts p.1 p.2.1 p.2.2
theorem cornB_symm {n : Int} {ts : List (Int × Int)} {t u : Int × Int} (gt : t.1 < t.2) (gu : u.1 < u.2) : cornB n ts u t = cornB n ts t u := by
  unfold cornB
  rw [mid_symm gt gu]
  cases mid t u with
  | none => rfl
  | some p => exact crn_symm n ts p.1 p.2.1 p.2.2
theorem Bes.at_i {H : Hp} {bs : List Addr} {n : Int} {ts : List (Int × Int)} (B : Bes H bs n ts) {a : Int} (a0 : 0 ≤ a) (a1 : a < n) : ∃ b, atI (bs.map V.ref) a = some (.ref b) ∧ H b = some (.lst ((nbs ts a).map V.int)) := by
  have hl := B.len
  obtain ⟨b, hb⟩ := getn (l := bs) (i := a.toNat) (by omega)
  refine ⟨b, at_of (j := a.toNat) (by omega) (map_ref_get hb), ?_⟩
  have := B.at_ _ _ hb
  rw [show ((a.toNat : Nat) : Int) = a by omega] at this
  exact this
def sp_corner_in (K : PySem.W.Frag) : Sp := fun vs H Q _ => ∃ (bl : Addr) (bs : List Addr) (x y : V) (n : Int) (ts : List (Int × Int)) (t u : Int × Int), vs = [.ref bl, x, y] ∧ H bl = some (.lst (bs.map V.ref)) ∧ Bes H bs n ts ∧ WebOk n ts ∧ Pr H x t ∧ t ∈ ts ∧ Pr H y u ∧ u ∈ ts ∧ ∀ H', Same H H' → Q (.bl (cornB n ts t u)) H'
def t_corner_in (K : PySem.W.Frag) : TS := (tSeq (tAsg (tLc (iTup K (tVar 1)) (gName 5) (tTest (tOp (rIn K false) (tVar 5) (tVar 2))) (tVar 5) [5]) (gName 3))
    (tSeq (tIfS (tTest (tOp rNe (tCB (rLenSq K) (tCons (tVar 3) tNil)) (tC (.int 1)))) (tRet (tC (.bl false))) tNext)
    (tSeq (tAsg (tLc (iTup K (tOp (rCatTG K) (tVar 1) (tVar 2))) (gName 5) (tTest (tOp (rIn K true) (tVar 5) (tVar 3))) (tVar 5) [5]) (gName 4))
    (tRet (tOp (rEqD K) (tLc (iList K (tOp (rIxL K) (tVar 0) (tOp (rIxL K) (tVar 4) (tC (.int 0))))) (gName 5) (tTest (tOp (rIn K false) (tVar 5) (tOp (rIxL K) (tVar 0) (tOp (rIxL K) (tVar 4) (tC (.int 1)))))) (tVar 5) [5]) (tVar 3))))))
theorem pure_corner_in {K : PySem.W.Frag} {vs : List V} {H : Hp} {Q : VK} {E : XK} (h : sp_corner_in K vs H Q E) : t_corner_in K (Fin Q) (start ["beside", "tie", "other", "shared", "ends", "place"] vs) H := by
  obtain ⟨bl, bs, x, y, n, ts, t, u, rfl, hbl, B, W, ⟨b, rfl, hb⟩, ht, ⟨c, rfl, hc⟩, hu, q⟩ := h
  have hsz : sizeLine = 16777216 := sizeLine_eq
  have g := W.good t ht
  have g' := W.good u hu
  refine ⟨_, rfl, b, rfl, ⟨_, sqt hb⟩, fun D nD => ?_⟩
  refine lc_filt (ns := [t.1, t.2]) walk_tup nD (fun z => decide (z ∈ [u.1, u.2])) (by show 2 < sizeLine; omega) (fun H1 s1 => sqt (s1 _ _ hb)) (fun z H1 Nx Ny hz s1 hX hY => ?_) (fun H1 s1 hD => ?_)
  · refine ⟨rfl, _, rfl, _, rfl, c, [u.1, u.2].map V.int, rfl, .inr (sqt (s1 _ _ hc)), rfl, flat_ints _, _, rfl, ?_⟩
    show if inV (.int z) ([u.1, u.2].map V.int) = true then _ else _
    rw [inV_int]
    exact ite2 (fun e => ⟨_, rfl, hX e _ (Same.refl _)⟩) (fun e => hY (by simpa using e) _ (Same.refl _))
  · obtain ⟨sh, esh⟩ : ∃ sh, sh = [t.1, t.2].filter (fun z => decide (z ∈ [u.1, u.2])) := ⟨_, rfl⟩
    rw [← esh] at hD
    refine ⟨_, rfl, _, _, rfl, .inl (sql hD), rfl, _, rfl, ?_⟩
    rw [List.length_map]
    rcases mid_cases g.2.1 g'.2.1 with ⟨e, h⟩ | ⟨a, b', m, e, k1, k2, k3, k4, k5⟩
    · have el : sh.length ≠ 1 := by
        rw [esh]
        rcases h with ⟨z1, z2⟩ | ⟨z1, z2, z3, z4⟩
        · simp [z1, z2]
        · simp [z1, z2, z3, z4]
      have eq : cornB n ts t u = false := by
        unfold cornB
        rw [e]
      have hne : (!decide (V.int ((sh.length : Nat) : Int) = V.int 1)) = true := by
        simp
        omega
      rw [hne]
      refine iteT ?_
      have := q H1 s1
      rw [eq] at this
      exact this
    · have el : sh = [m] := by
        rw [esh]
        rcases k4 with ⟨z1, z2⟩ | ⟨z1, z2⟩ <;> rcases k5 with ⟨z3, z4⟩ | ⟨z3, z4⟩ <;> rw [z1, z2, z3, z4] <;> simp [k1, k2, k3, Ne.symm k1, Ne.symm k2, Ne.symm k3]
      have en : ([t.1, t.2] ++ [u.1, u.2]).filter (fun z => !decide (z ∈ sh)) = [a, b'] := by
        rw [el]
        rcases k4 with ⟨z1, z2⟩ | ⟨z1, z2⟩ <;> rcases k5 with ⟨z3, z4⟩ | ⟨z3, z4⟩ <;> rw [z1, z2, z3, z4] <;> simp [k1, k2, k3, Ne.symm k1, Ne.symm k2, Ne.symm k3]
      have eq : cornB n ts t u = crn n ts a b' m := by
        unfold cornB
        rw [e]
      refine iteNS (by rw [el]; rfl) ?_
      refine ⟨_, rfl, _, rfl, b, c, _, _, rfl, rfl, sqt (s1 _ _ hb), sqt (s1 _ _ hc), by simp, by simp, by show 4 ≤ sizeLine; omega, fun T H2 nT s2 hT => ?_⟩
      refine ⟨T, rfl, ⟨_, sqt hT⟩, fun D2 nD2 => ?_⟩
      refine lc_filt (ns := [t.1, t.2] ++ [u.1, u.2]) walk_tup nD2 (fun z => !decide (z ∈ sh)) (by show 4 < sizeLine; omega) (fun H3 s3 => sqt (s3 _ _ hT)) (fun z H3 Nx Ny hz s3 hX hY => ?_) (fun H3 s3 hD2 => ?_)
      · refine ⟨rfl, _, rfl, _, rfl, D, sh.map V.int, rfl, .inl (sql (s3 _ _ (s2 _ _ hD))), rfl, flat_ints _, _, rfl, ?_⟩
        show if (!inV (.int z) (sh.map V.int)) = true then _ else _
        rw [inV_int]
        exact ite2 (fun e => ⟨_, rfl, hX e _ (Same.refl _)⟩) (fun e => hY (by simpa using e) _ (Same.refl _))
      · rw [en] at hD2
        have s13 := s1.trans (s2.trans s3)
        have B3 := B.mono s13
        obtain ⟨ba, ea, hba⟩ := B3.at_i (a := a) (by omega) (by omega)
        obtain ⟨bb, eb, hbb⟩ := B3.at_i (a := b') (by omega) (by omega)
        have hla := nbs_len W a
        have hbl3 := s13 _ _ hbl
        refine ⟨_, rfl, _, rfl, _, _, _, _, rfl, rfl, sql hD2, atI_nat (j := 0) rfl, _, _, _, _, rfl, rfl, sql hbl3, ea, ba, rfl, ⟨_, sql hba⟩, fun D3 nD3 => ?_⟩
        refine lc_filt (ns := nbs ts a) walk_list nD3 (fun z => decide (z ∈ nbs ts b')) (by omega) (fun H4 s4 => sql (s4 _ _ hba)) (fun z H4 Nx Ny hz s4 hX hY => ?_) (fun H4 s4 hD3 => ?_)
        · refine ⟨rfl, _, rfl, _, rfl, _, rfl, _, _, _, _, rfl, rfl, sql (s4 _ _ hD2), atI_nat (j := 1) rfl, _, _, _, _, rfl, rfl, sql (s4 _ _ hbl3), eb, bb, (nbs ts b').map V.int, rfl, .inl (sql (s4 _ _ hbb)), rfl, flat_ints _, _, rfl, ?_⟩
          show if inV (.int z) ((nbs ts b').map V.int) = true then _ else _
          rw [inV_int]
          exact ite2 (fun e => ⟨_, rfl, hX e _ (Same.refl _)⟩) (fun e => hY (by simpa using e) _ (Same.refl _))
        · have hD4 := s4 _ _ (s3 _ _ (s2 _ _ hD))
          refine ⟨_, rfl, _, _, ints_dp (sql hD3), ints_dp (sql hD4), shaped_ints _, shaped_ints _, ?_⟩
          rw [eqv_ints, both_eq W, el]
          have := q H4 (s13.trans s4)
          rw [eq] at this
          exact this
def sp_is_corner (K : PySem.W.Frag) : Sp := fun vs H Q _ => ∃ (v x y : V) (n : Int) (ts : List (Int × Int)) (t u : Int × Int), vs = [v, x, y] ∧ IsW H v n ts ∧ WebOk n ts ∧ Conn n ts ∧ Pr H x t ∧ t ∈ ts ∧ Pr H y u ∧ u ∈ ts ∧ ∀ H', Same H H' → Q (.bl (cornB n ts t u)) H'
def t_is_corner (K : PySem.W.Frag) : TS := (tSeq (tDrop (tCall (sp_look_at_web K) [] E0 (tCons (tVar 0) tNil)))
    (tSeq (tDrop (tCall (sp_look_together K) [] E0 (tCons (tVar 0) tNil)))
    (tSeq (tDrop (tCall (sp_look_at_ties K) [] E0 (tCons (tVar 0) (tCons (tVar 1) (tCons (tVar 2) tNil)))))
    (tRet (tCall (sp_corner_in K) [] E0 (tCons (tCall (sp_beside_all K) [] E0 (tCons (tVar 0) tNil)) (tCons (tVar 1) (tCons (tVar 2) tNil))))))))
theorem pure_is_corner {K : PySem.W.Frag} {vs : List V} {H : Hp} {Q : VK} {E : XK} (h : sp_is_corner K vs H Q E) : t_is_corner K (Fin Q) (start ["web", "tie", "other"] vs) H := by
  obtain ⟨v, x, y, n, ts, t, u, rfl, hw, W, C, hx, ht, hy, hu, q⟩ := h
  refine ⟨_, rfl, v, n, ts, rfl, hw, W, fun H1 s1 => ?_⟩
  refine ⟨_, rfl, v, n, ts, rfl, hw.mono s1, W, C, fun H2 s2 => ?_⟩
  have s12 := s1.trans s2
  refine ⟨_, rfl, _, rfl, _, rfl, v, x, y, n, ts, t, u, rfl, hw.mono s12, W, hx.mono s12, ht, hy.mono s12, hu, ?_⟩
  refine ⟨_, rfl, v, n, ts, rfl, hw.mono s12, W, fun p bs H3 s3 np hp B nd fr => ?_⟩
  have s13 := s12.trans s3
  exact ⟨_, rfl, _, rfl, p, bs, x, y, n, ts, t, u, rfl, hp, B, W, hx.mono s13, ht, hy.mono s13, hu, fun H4 s4 => q H4 (s13.trans s4)⟩
end G39

/-! law_k24_corner_links: the law's own defs. -/
namespace G39
open PySem PySem.Spec PyProof.Rows L2
theorem ends_of {t u : Int × Int} (gt : t.1 < t.2) (gu : u.1 < u.2) {ms : List Int} (so : ms.Pairwise (· < ·)) (mem : ∀ k : Int, k ∈ ms ↔ k ∈ [t.1, t.2] ++ [u.1, u.2]) :
    (mid t u = none ∧ ms.length ≠ 3 ∧ ms.length ≤ 4) ∨ ∃ a b m o1 o2, mid t u = some (a, b, m) ∧ ms.length = 3 ∧ ms.filter (fun z => decide (z ∈ [t.1, t.2]) && decide (z ∈ [u.1, u.2])) = [m] ∧ ms.filter (fun z => !decide (z ∈ [m])) = [o1, o2] ∧
      ((o1 = a ∧ o2 = b) ∨ (o1 = b ∧ o2 = a)) ∧ (a = t.1 ∨ a = t.2) ∧ (b = u.1 ∨ b = u.2) := by
  have nd : ms.Nodup := so.imp fun {a b} h => by omega
  rcases mid_cases gt gu with ⟨e, h⟩ | ⟨a, b, m, e, k1, k2, k3, k4, k5⟩
  · refine .inl ⟨e, ?_⟩
    rcases h with ⟨z1, z2⟩ | ⟨z1, z2, z3, z4⟩
    · have p : ms.Perm [t.1, t.2] := (List.perm_ext_iff_of_nodup nd (by simp; omega)).mpr fun k => by
        rw [mem k, ← z1, ← z2]
        simp
        omega
      have := p.length_eq
      simp at this
      omega
    · have p : ms.Perm [t.1, t.2, u.1, u.2] := (List.perm_ext_iff_of_nodup nd (by simp; omega)).mpr fun k => by
        rw [mem k]
        simp
      have := p.length_eq
      simp at this
      omega
  · have mm : ∀ k : Int, k ∈ ms ↔ k = a ∨ k = b ∨ k = m := fun k => by
      rw [mem k]
      simp
      omega
    have p : ms.Perm [a, b, m] := (List.perm_ext_iff_of_nodup nd (by simp; omega)).mpr fun k => by
      rw [mm k]
      simp
    have hl := p.length_eq
    have f1 : ms.filter (fun z => decide (z ∈ [t.1, t.2]) && decide (z ∈ [u.1, u.2])) = [m] := by
      refine lt_uniq (List.Pairwise.filter _ so) (by simp) fun x => ?_
      rw [List.mem_filter, mm x]
      simp
      omega
    have f2 : ∀ o1 o2, (o1 = a ∧ o2 = b) ∨ (o1 = b ∧ o2 = a) → o1 < o2 → ms.filter (fun z => !decide (z ∈ [m])) = [o1, o2] := fun o1 o2 h h' => by
      refine lt_uniq (List.Pairwise.filter _ so) (by simp; exact h') fun x => ?_
      rw [List.mem_filter, mm x]
      simp
      omega
    by_cases c : a < b
    · exact .inr ⟨a, b, m, a, b, e, hl, f1, f2 a b (.inl ⟨rfl, rfl⟩) c, .inl ⟨rfl, rfl⟩, by omega, by omega⟩
    · exact .inr ⟨a, b, m, b, a, e, hl, f1, f2 b a (.inr ⟨rfl, rfl⟩) (by omega), .inr ⟨rfl, rfl⟩, by omega, by omega⟩
def sp_law_is_corner (K : PySem.W.Frag) : Sp := sp_corner_in K
def t_law_is_corner (K : PySem.W.Frag) : TS := (tSeq (tAsg (tSortSetT K (tCons (tOp (rCatTG K) (tVar 1) (tVar 2)) tNil)) (gName 3))
    (tSeq (tAsg (tLc (iList K (tVar 3)) (gName 7) (tAnd (tTest (tOp (rIn K false) (tVar 7) (tVar 1))) (tTest (tOp (rIn K false) (tVar 7) (tVar 2)))) (tVar 7) [7]) (gName 4))
    (tSeq (tIfS (tTest (tOp rNe (tCB (rLenSq K) (tCons (tVar 3) tNil)) (tC (.int 3)))) (tRet (tC (.bl false))) tNext)
    (tSeq (tAsg (tLc (iList K (tVar 3)) (gName 7) (tTest (tOp (rIn K true) (tVar 7) (tVar 4))) (tVar 7) [7]) (gName 5))
    (tSeq (tAsg (tLc (iRng1 (tCons (tCB (rLenSq K) (tCons (tVar 0) tNil)) tNil)) (gName 7) (tAnd (tTest (tOp (rIn K false) (tVar 7) (tOp (rIxL K) (tVar 0) (tOp (rIxL K) (tVar 5) (tC (.int 0)))))) (tTest (tOp (rIn K false) (tVar 7) (tOp (rIxL K) (tVar 0) (tOp (rIxL K) (tVar 5) (tC (.int 1))))))) (tVar 7) [7]) (gName 6))
    (tRet (tOp (rEqD K) (tVar 6) (tVar 4))))))))
theorem pure_law_is_corner {K : PySem.W.Frag} {vs : List V} {H : Hp} {Q : VK} {E : XK} (h : sp_law_is_corner K vs H Q E) : t_law_is_corner K (Fin Q) (start ["_law_beside_here", "_law_tie", "_law_other", "_law_ends", "_law_middle", "_law_outer", "_law_both", "_law_place"] vs) H := by
  obtain ⟨bl, bs, x, y, n, ts, t, u, rfl, hbl, B, W, ⟨b, rfl, hb⟩, ht, ⟨c, rfl, hc⟩, hu, q⟩ := h
  have hsz : sizeLine = 16777216 := sizeLine_eq
  have g := W.good t ht
  have g' := W.good u hu
  have hn0 := W.lo
  have hn1 := W.hi
  refine ⟨_, rfl, _, rfl, b, c, _, _, rfl, rfl, sqt hb, sqt hc, by simp, by simp, by show 4 ≤ sizeLine; omega, fun T H1 nT s1 hT => ?_⟩
  refine ⟨T, [t.1, t.2] ++ [u.1, u.2], rfl, sqt hT, by show 4 < 63; decide, fun ms so mem e H2 ne s2 he => ?_⟩
  have E := ends_of g.2.1 g'.2.1 so mem
  have ml : ms.length ≤ 4 := by
    rcases E with ⟨_, _, h⟩ | ⟨_, _, _, _, _, _, h, _⟩ <;> omega
  have s12 := s1.trans s2
  refine ⟨_, rfl, e, rfl, ⟨_, sql he⟩, fun M nM => ?_⟩
  refine lc_filt (ns := ms) walk_list nM (fun z => decide (z ∈ [t.1, t.2]) && decide (z ∈ [u.1, u.2])) (by omega) (fun H3 s3 => sql (s3 _ _ he)) (fun z H3 Nx Ny hz s3 hX hY => ?_) (fun H3 s3 hM => ?_)
  · have s13 := s12.trans s3
    refine ⟨rfl, _, rfl, _, rfl, b, [t.1, t.2].map V.int, rfl, .inr (sqt (s13 _ _ hb)), rfl, flat_ints _, _, rfl, ?_⟩
    show if inV (.int z) ([t.1, t.2].map V.int) = true then _ else _
    rw [inV_int]
    refine ite2 (fun e1 => ?_) (fun e1 => iteF (hY ?_ _ (Same.refl _)))
    · refine ⟨_, rfl, _, rfl, c, [u.1, u.2].map V.int, rfl, .inr (sqt (s13 _ _ hc)), rfl, flat_ints _, _, rfl, ?_⟩
      show if inV (.int z) ([u.1, u.2].map V.int) = true then _ else _
      rw [inV_int]
      refine ite2 (fun e2 => ⟨_, rfl, hX ?_ _ (Same.refl _)⟩) (fun e2 => hY ?_ _ (Same.refl _))
      · show (decide _ && decide _) = true
        rw [e1, e2]
        rfl
      · show (decide _ && decide _) = false
        rw [e1, Bool.eq_false_iff.mpr e2]
        rfl
    · show (decide _ && decide _) = false
      rw [Bool.eq_false_iff.mpr e1]
      rfl
  · have s13 := s12.trans s3
    have he3 := s3 _ _ he
    refine ⟨_, rfl, _, _, rfl, .inl (sql he3), rfl, _, rfl, ?_⟩
    rw [List.length_map]
    rcases E with ⟨em, hl, _⟩ | ⟨a, b', m, o1, o2, em, hl, f1, f2, ho, ha, hb'⟩
    · have eq : cornB n ts t u = false := by
        unfold cornB
        rw [em]
      have hne : (!decide (V.int ((ms.length : Nat) : Int) = V.int 3)) = true := by
        simp
        omega
      rw [hne]
      refine iteT ?_
      have := q H3 s13
      rw [eq] at this
      exact this
    · have eq : cornB n ts t u = crn n ts o1 o2 m := by
        unfold cornB
        rw [em]
        rcases ho with ⟨rfl, rfl⟩ | ⟨rfl, rfl⟩
        · rfl
        · exact crn_symm n ts _ _ m
      have ho1 : 0 ≤ o1 ∧ o1 < n := by omega
      have ho2 : 0 ≤ o2 ∧ o2 < n := by omega
      rw [f1] at hM
      refine iteNS (by rw [hl]; rfl) ?_
      refine ⟨_, rfl, e, rfl, ⟨_, sql he3⟩, fun O nO => ?_⟩
      refine lc_filt (ns := ms) walk_list nO (fun z => !decide (z ∈ [m])) (by omega) (fun H4 s4 => sql (s4 _ _ he3)) (fun z H4 Nx Ny hz s4 hX hY => ?_) (fun H4 s4 hO => ?_)
      · refine ⟨rfl, _, rfl, _, rfl, M, [m].map V.int, rfl, .inl (sql (s4 _ _ hM)), rfl, flat_ints _, _, rfl, ?_⟩
        show if (!inV (.int z) ([m].map V.int)) = true then _ else _
        rw [inV_int]
        exact ite2 (fun e => ⟨_, rfl, hX e _ (Same.refl _)⟩) (fun e => hY (by simpa using e) _ (Same.refl _))
      · rw [f2] at hO
        have s14 := s13.trans s4
        have hbl4 := s14 _ _ hbl
        have B4 := B.mono s14
        obtain ⟨ba, ea, hba⟩ := B4.at_i ho1.1 ho1.2
        obtain ⟨bb, eb, hbb⟩ := B4.at_i ho2.1 ho2.2
        refine ⟨_, rfl, bl, _, rfl, .inl (sql hbl4), ?_⟩
        have hl4 := B.len
        rw [show (((bs.map V.ref).length : Nat) : Int) = n by rw [List.length_map]; omega]
        refine ⟨n, rfl, by omega, by omega, fun D nD => ?_⟩
        refine lc_pure walk_rng0 nD (fun i => .int ((i : Nat) : Int)) (fun i => decide (((i : Nat) : Int) ∈ nbs ts o1) && decide (((i : Nat) : Int) ∈ nbs ts o2)) (by omega) (fun _ _ => trivial) (fun k x H5 H6 Nx Ny hk s5 y hX hY => ?_) (fun H5 s5 hD => ?_)
        · obtain ⟨rfl, rfl⟩ := y
          refine ⟨rfl, _, rfl, _, rfl, _, rfl, _, _, _, _, rfl, rfl, sql (s5 _ _ hO), atI_nat (j := 0) rfl, _, _, _, _, rfl, rfl, sql (s5 _ _ hbl4), ea, ba, (nbs ts o1).map V.int, rfl, .inl (sql (s5 _ _ hba)), rfl, flat_ints _, _, rfl, ?_⟩
          show if inV (.int ((k : Nat) : Int)) ((nbs ts o1).map V.int) = true then _ else _
          rw [inV_int]
          refine ite2 (fun e1 => ?_) (fun e1 => iteF (hY ?_ _ (Same.refl _)))
          · refine ⟨_, rfl, _, rfl, _, rfl, _, _, _, _, rfl, rfl, sql (s5 _ _ hO), atI_nat (j := 1) rfl, _, _, _, _, rfl, rfl, sql (s5 _ _ hbl4), eb, bb, (nbs ts o2).map V.int, rfl, .inl (sql (s5 _ _ hbb)), rfl, flat_ints _, _, rfl, ?_⟩
            show if inV (.int ((k : Nat) : Int)) ((nbs ts o2).map V.int) = true then _ else _
            rw [inV_int]
            refine ite2 (fun e2 => ⟨_, rfl, hX ?_ _ (Same.refl _)⟩) (fun e2 => hY ?_ _ (Same.refl _))
            · show (decide _ && decide _) = true
              rw [e1, e2]
              rfl
            · show (decide _ && decide _) = false
              rw [e1, Bool.eq_false_iff.mpr e2]
              rfl
          · show (decide _ && decide _) = false
            rw [Bool.eq_false_iff.mpr e1]
            rfl
        · have eD : (((List.range n.toNat).filter (fun i => decide (((i : Nat) : Int) ∈ nbs ts o1) && decide (((i : Nat) : Int) ∈ nbs ts o2))).map fun i => V.int ((i : Nat) : Int)) = (((List.range n.toNat).filter (fun i => decide (((i : Nat) : Int) ∈ nbs ts o1) && decide (((i : Nat) : Int) ∈ nbs ts o2))).map fun i => ((i : Nat) : Int)).map V.int := by
            rw [List.map_map]
            rfl
          rw [eD] at hD
          refine ⟨_, rfl, _, rfl, _, _, ints_dp (sql hD), ints_dp (ns := [m]) (sql (s5 _ _ (s4 _ _ hM))), shaped_ints _, shaped_ints _, ?_⟩
          rw [eqv_ints]
          have := q H5 (s14.trans s5)
          rw [eq] at this
          exact this
/-! the pairs -/
def IsTT (H : Hp) (ts : List (Int × Int)) (v : V) : Prop := ∃ (T : Addr) (x y : V) (t u : Int × Int), v = .ref T ∧ H T = some (.tup [x, y]) ∧ Pr H x t ∧ t ∈ ts ∧ Pr H y u ∧ u ∈ ts
theorem IsTT.mono {H H' : Hp} {ts : List (Int × Int)} {v : V} (s : Same H H') (h : IsTT H ts v) : IsTT H' ts v :=
  let ⟨T, x, y, t, u, e, h1, h2, h3, h4, h5⟩ := h; ⟨T, x, y, t, u, e, s _ _ h1, h2.mono s, h3, h4.mono s, h5⟩
theorem Pr.updL {H : Hp} {D : Addr} {zs : List V} {o : HO} (hD : H D = some (.lst zs)) {x : V} {t : Int × Int} (h : Pr H x t) : Pr (upd H D o) x t := by
  obtain ⟨b, rfl, hb⟩ := h
  have ne : b ≠ D := fun e => by
    rw [e, hD] at hb
    cases hb
  exact ⟨b, rfl, by rw [upd_ne ne]; exact hb⟩
theorem IsTT.updL {H : Hp} {ts : List (Int × Int)} {v : V} {D : Addr} {zs : List V} {o : HO} (hD : H D = some (.lst zs)) (h : IsTT H ts v) : IsTT (upd H D o) ts v := by
  obtain ⟨T, x, y, t, u, e, h1, h2, h3, h4, h5⟩ := h
  have ne : T ≠ D := fun e => by
    rw [e, hD] at h1
    cases h1
  exact ⟨T, x, y, t, u, e, by rw [upd_ne ne]; exact h1, h2.updL hD, h3, h4.updL hD, h5⟩
def PvT (H0 : Hp) (D : Addr) (ts : List (Int × Int)) (i : Nat) (H : Hp) : Prop := Same H0 H ∧ ∃ zs, H D = some (.lst zs) ∧ zs.length ≤ i ∧ ∀ z ∈ zs, IsTT H ts z
theorem addTT {H0 H : Hp} {D : Addr} {ts : List (Int × Int)} {i : Nat} {x y : V} {t u : Int × Int} (P : PvT H0 D ts i H) (n0 : H0 D = none) (hi : i < sizeLine) (px : Pr H x t) (tm : t ∈ ts) (py : Pr H y u) (um : u ∈ ts) :
    Nw H (.tup [x, y]) (fun v H4 => ∃ acc, H4 D = some (.lst acc) ∧ acc.length < sizeLine ∧ PvT H0 D ts (i + 1) (upd H4 D (.lst (acc ++ [v])))) := by
  intro T H4 nT s4 hT
  obtain ⟨s, zs, hD, hl, hz⟩ := P
  refine ⟨zs, s4 _ _ hD, by omega, same_mut (s.trans s4) n0, _, upd_same, by simp; omega, fun z hm => ?_⟩
  rcases List.mem_append.mp hm with h | h
  · exact ((hz z h).mono s4).updL (s4 _ _ hD)
  · have e : z = .ref T := by simpa using h
    subst e
    exact IsTT.updL (s4 _ _ hD) ⟨T, x, y, t, u, rfl, hT, px.mono s4, tm, py.mono s4, um⟩
theorem PvT.keep {H0 H : Hp} {D : Addr} {ts : List (Int × Int)} {i : Nat} (P : PvT H0 D ts i H) : PvT H0 D ts (i + 1) H := let ⟨s, zs, hD, hl, hz⟩ := P; ⟨s, zs, hD, by omega, hz⟩
theorem cut_sub {zs : List V} {lo hi : Option Int} : (∀ z ∈ cutV zs lo hi, z ∈ zs) ∧ (cutV zs lo hi).length ≤ zs.length := by
  unfold cutV
  refine ⟨fun z hz => List.mem_of_mem_drop (List.mem_of_mem_take hz), ?_⟩
  rw [List.length_take, List.length_drop]
  omega
def sp_law_pairs (K : PySem.W.Frag) : Sp := fun vs H Q _ => ∃ (d l : Addr) (ds : List Int) (xs : List V) (ts : List (Int × Int)), vs = [.ref d, .ref l] ∧ H d = some (.lst (ds.map V.int)) ∧ 1 ≤ ds.length ∧ ds.length ≤ 40 ∧ H l = some (.lst xs) ∧ Paired (Pr H) xs ts ∧ ts.length ≤ 120 ∧
  ∀ p H' zs, Same H H' → H' p = some (.lst zs) → (∀ z ∈ zs, IsTT H' ts z) → Q (.ref p) H'
def t_law_pairs (K : PySem.W.Frag) : TS := (tSeq (tAsg (tLstG tNil) (gName 2))
    (tSeq (tIfS (tTest (tOp (rNeD K) (tVar 1) (tLstG tNil))) (tSeq (tAsg (tOp (rIxL K) (tVar 1) (tOp rMod (tOp (rIxL K) (tVar 0) (tC (.int 0))) (tCB (rLenSq K) (tCons (tVar 1) tNil)))) (gName 3))
    (tSeq (tAsg (tSl (rSlLG K) (tLc (iList K (tVar 1)) (gName 4) (tOr (tTest (tOp (rIn K false) (tOp (rIxT K) (tVar 3) (tC (.int 0))) (tVar 4))) (tTest (tOp (rIn K false) (tOp (rIxT K) (tVar 3) (tC (.int 1))) (tVar 4)))) (tTupG (tCons (tVar 3) (tCons (tVar 4) tNil))) [4]) tNoPart (tPart (tC (.int 24)))) (gName 2))
    (tAsg (tOp rCatG (tVar 2) (tLc (iList K (tSl (rSlLG K) (tVar 0) (tPart (tC (.int 1))) tNoPart)) (gName 5) tYes (tTupG (tCons (tVar 3) (tCons (tOp (rIxL K) (tVar 1) (tOp rMod (tVar 5) (tCB (rLenSq K) (tCons (tVar 1) tNil)))) tNil))) [5])) (gName 2)))) tNext)
    (tRet (tVar 2))))
theorem pure_law_pairs {K : PySem.W.Frag} {vs : List V} {H : Hp} {Q : VK} {E : XK} (h : sp_law_pairs K vs H Q E) : t_law_pairs K (Fin Q) (start ["_law_digits", "_law_ties", "_law_found", "_law_tie", "_law_other", "_law_digit"] vs) H := by
  obtain ⟨d, l, ds, xs, ts, rfl, hd, d1, d2, hl, hx, few, q⟩ := h
  have hsz : sizeLine = 16777216 := sizeLine_eq
  have hxl := Paired.length hx
  refine ⟨Nat.zero_le _, fun f H1 nf s1 hf => ?_⟩
  refine ⟨_, rfl, Nat.zero_le _, fun e0 H2 ne0 s2 he0 => ?_⟩
  have s12 := s1.trans s2
  have hP : IsP H2 l ts := ⟨xs, s12 _ _ hl, Prs.mono s12 hx⟩
  refine ⟨_, _, hP.dp, ints_dp (ns := []) (sql he0), shaped_prs _, shaped_ints [], _, rfl, ?_⟩
  cases ets : ts with
  | nil =>
    refine iteF ?_
    exact ⟨_, rfl, q f H2 [] s12 (s2 _ _ hf) (fun z hz => by simp at hz)⟩
  | cons t0 tr =>
    refine iteT ?_
    have hxp : 0 < xs.length := by
      rw [hxl, ets]
      simp
    have pick : ∀ z : Int, ∃ x t, atI xs (z % (xs.length : Int)) = some x ∧ Pr H x t ∧ t ∈ ts := fun z => by
      have r0 : 0 ≤ z % (xs.length : Int) := Int.emod_nonneg _ (by omega)
      have r1 : z % (xs.length : Int) < xs.length := Int.emod_lt_of_pos _ (by omega)
      obtain ⟨x, ex⟩ := getn (l := xs) (i := (z % (xs.length : Int)).toNat) (by omega)
      obtain ⟨t, et, ht⟩ := paired_get hx ex
      exact ⟨x, t, at_of (j := (z % (xs.length : Int)).toNat) (by omega) ex, ht, List.mem_of_getElem? et⟩
    obtain ⟨z0, _, az0⟩ := ints_at (ns := ds) (i := 0) (by omega) (by omega)
    obtain ⟨x0, t, ax0, px0, tm⟩ := pick z0
    have hl2 := s12 _ _ hl
    have hd2 := s12 _ _ hd
    refine ⟨_, rfl, _, rfl, _, _, _, _, rfl, rfl, sql hd2, az0, _, rfl, l, xs, rfl, .inl (sql hl2), _, _, rfl, rfl, by show (0 : Int) < (xs.length : Int); omega, _, _, _, _, rfl, rfl, sql hl2, ax0, ?_⟩
    refine ⟨_, rfl, l, rfl, ⟨_, sql hl2⟩, fun D nD => ?_⟩
    refine lc_it (walk_list (xs := xs)) (PvT H2 D ts) ⟨same_new nD, [], upd_same, Nat.le_refl _, fun z hz => by simp at hz⟩ (fun i H3 _ P => sql (P.1 _ _ hl2)) (fun i x H3 H4 hi P y => ?_) (fun H3 P => ?_)
    · obtain ⟨rfl, ex⟩ := y
      obtain ⟨u, eu, pu⟩ := paired_get hx ex
      have um := List.mem_of_getElem? eu
      have s3 := s12.trans P.1
      obtain ⟨b, rfl, hb⟩ := px0.mono s3
      obtain ⟨c, rfl, hc⟩ := pu.mono s3
      refine ⟨rfl, _, rfl, _, _, _, _, rfl, rfl, sqt hb, atI_nat (j := 0) rfl, _, rfl, c, [u.1, u.2].map V.int, rfl, .inr (sqt hc), rfl, flat_ints _, _, rfl, ?_⟩
      have add := addTT P nD (by omega) ⟨b, rfl, hb⟩ tm ⟨c, rfl, hc⟩ um
      refine ite2 (fun _ => iteT ?_) (fun _ => ?_)
      · exact ⟨_, rfl, _, rfl, by show 2 ≤ sizeLine; omega, add⟩
      · refine ⟨_, rfl, _, _, _, _, rfl, rfl, sqt hb, atI_nat (j := 1) rfl, _, rfl, c, [u.1, u.2].map V.int, rfl, .inr (sqt hc), rfl, flat_ints _, _, rfl, ?_⟩
        exact ite2 (fun _ => ⟨_, rfl, _, rfl, by show 2 ≤ sizeLine; omega, add⟩) (fun _ => P.keep)
    · obtain ⟨s3, zs, hD, hzl, hz⟩ := P
      refine ⟨24, rfl, D, zs, rfl, sql hD, fun f2 H4 nf2 s4 hf2 => ?_⟩
      have cs := cut_sub (zs := zs) (lo := none) (hi := some 24)
      have s14 := s12.trans (s3.trans s4)
      have hd4 := s14 _ _ hd
      have hl4 := s14 _ _ hl
      refine ⟨_, rfl, _, rfl, 1, rfl, d, _, rfl, sql hd4, fun e H5 ne s5 he => ?_⟩
      obtain ⟨es, ees, ees2⟩ := cut_ints (ds := ds) (lo := some 1) (hi := none)
      rw [ees] at he
      have el : es.length ≤ 40 := by
        rw [ees2, List.length_take, List.length_drop]
        omega
      have s15 := s14.trans s5
      have hl5 := s15 _ _ hl
      refine ⟨e, rfl, ⟨_, sql he⟩, fun D2 nD2 => ?_⟩
      refine lc_it (walk_list (xs := es.map V.int)) (PvT H5 D2 ts) ⟨same_new nD2, [], upd_same, Nat.le_refl _, fun z hz => by simp at hz⟩ (fun i H6 _ P => sql (P.1 _ _ he)) (fun i x H6 H7 hi P y => ?_) (fun H6 P => ?_)
      · obtain ⟨rfl, ex⟩ := y
        rw [List.length_map] at hi
        rw [List.getElem?_map, List.getElem?_eq_getElem hi] at ex
        have ex : V.int es[i] = x := Option.some.inj ex
        subst ex
        obtain ⟨x1, u, ax1, px1, um⟩ := pick es[i]
        have s6 := s15.trans P.1
        have hl6 := s6 _ _ hl
        refine ⟨rfl, _, rfl, _, rfl, _, rfl, _, rfl, l, xs, rfl, .inl (sql hl6), _, _, rfl, rfl, by show (0 : Int) < (xs.length : Int); omega, _, _, _, _, rfl, rfl, sql hl6, ax1, by show 2 ≤ sizeLine; omega, ?_⟩
        exact addTT P nD2 (by omega) (px0.mono s6) tm (px1.mono s6) um
      · obtain ⟨s6, ys, hD2, hyl, hy⟩ := P
        have s56 := s5.trans s6
        rw [List.length_map] at hyl
        refine ⟨f2, D2, _, ys, rfl, rfl, s56 _ _ hf2, hD2, by have := cs.2; omega, fun p H7 np s7 hp => ?_⟩
        refine ⟨_, rfl, q p H7 _ (s15.trans (s6.trans s7)) hp fun z hm => ?_⟩
        rcases List.mem_append.mp hm with h | h
        · exact (hz z (cs.1 z h)).mono (s4.trans (s56.trans s7))
        · exact (hy z h).mono s7
/-! the law -/
def sp_law (K : PySem.W.Frag) : Sp := fun vs H Q _ => ∃ (a : Addr) (ns : List Int), vs = [.ref a] ∧ SqL K H a (ns.map V.int) ∧ ns.length ≤ 63 ∧ ∀ H', Q (.bl true) H'
def t_law (K : PySem.W.Frag) : TS := (tSeq (tFor (iRng1 (tCons (tCB rMax2 (tCons (tC (.int 1)) (tCons (tOp rDiv (tOp rAdd (tCB rMin2 (tCons (tCB (rLenSq K) (tCons (tVar 0) tNil)) (tCons (tC (.int 32)) tNil))) (tC (.int 1))) (tC (.int 2))) tNil))) tNil)) (gName 1) (tSeq (tAsg (tCall (sp_law_one_web K) [] E0 (tCons (tVar 0) (tCons (tVar 1) (tCons (tOp rAdd (tC (.int 2500)) (tOp rMul (tC (.int 2)) (tVar 1))) tNil)))) (gName 2))
    (tSeq (tAsg (tTupG (tCons (tOp (rIxT K) (tVar 2) (tC (.int 0))) (tCons (tCB (rListOfG K) (tCons (tOp (rIxT K) (tVar 2) (tC (.int 1))) tNil)) tNil))) (gName 3))
    (tSeq (tAsg (tCall (sp_law_beside K) [] E0 (tCons (tVar 2) tNil)) (gName 4))
    (tSeq (tAsg (tSl (rSlLG K) (tCall (sp_law_numbers K) [] E0 (tCons (tCall (sp_law_cell_at K) [] E0 (tCons (tVar 0) (tCons (tOp rAdd (tOp rMul (tC (.int 2)) (tVar 1)) (tC (.int 1))) tNil))) (tCons (tOp rAdd (tC (.int 2600)) (tVar 1)) (tCons (tOp rCatG (tLstG (tCons (tC (.int 8)) tNil)) (tOp rRepG (tLstG (tCons (tC (.int 120)) tNil)) (tC (.int 9)))) tNil)))) (tPart (tC (.int 1))) tNoPart) (gName 5))
    (tSeq (tFor (iList K (tCall (sp_law_pairs K) [] E0 (tCons (tVar 5) (tCons (tOp (rIxT K) (tVar 2) (tC (.int 1))) tNil)))) (gTup K 2 (gCons (gName 6) (gCons (gName 7) gNil))) (tSeq (tAsg (tCall (sp_law_is_corner K) [] E0 (tCons (tVar 4) (tCons (tVar 6) (tCons (tVar 7) tNil)))) (gName 8))
    (tFor (iList K (tLstG (tCons (tCall (sp_is_corner K) [] E0 (tCons (tVar 3) (tCons (tVar 6) (tCons (tVar 7) tNil)))) (tCons (tCall (sp_is_corner K) [] E0 (tCons (tVar 3) (tCons (tVar 7) (tCons (tVar 6) tNil)))) tNil)))) (gName 9) (tIfS (tOr (tNot (tB (tCB (rIsi K) (tCons (tVar 9) (tCons (tC (.ty "bool")) tNil))))) (tTest (tOp rNe (tVar 9) (tVar 8)))) (tRet (tC (.bl false))) tNext))))
    (tIfS (tTest (tOp (rNeD K) (tVar 3) (tVar 2))) (tRet (tC (.bl false))) tNext)))))))
    (tSeq (tAsg (tTupG (tCons (tC (.int 4)) (tCons (tLstG (tCons (tTupG (tCons (tC (.int 0)) (tCons (tC (.int 1)) tNil))) (tCons (tTupG (tCons (tC (.int 0)) (tCons (tC (.int 2)) tNil))) (tCons (tTupG (tCons (tC (.int 1)) (tCons (tC (.int 3)) tNil))) (tCons (tTupG (tCons (tC (.int 2)) (tCons (tC (.int 3)) tNil))) tNil))))) tNil))) (gName 10))
    (tRet (tAndV (tNotV (tCall (sp_is_corner K) [] E0 (tCons (tVar 10) (tCons (tTupG (tCons (tC (.int 0)) (tCons (tC (.int 1)) tNil))) (tCons (tTupG (tCons (tC (.int 0)) (tCons (tC (.int 2)) tNil))) tNil))))) (tCall (sp_is_corner K) [] E0 (tCons (tTupG (tCons (tC (.int 3)) (tCons (tLstG (tCons (tTupG (tCons (tC (.int 0)) (tCons (tC (.int 1)) tNil))) (tCons (tTupG (tCons (tC (.int 1)) (tCons (tC (.int 2)) tNil))) tNil))) tNil))) (tCons (tTupG (tCons (tC (.int 0)) (tCons (tC (.int 1)) tNil))) (tCons (tTupG (tCons (tC (.int 1)) (tCons (tC (.int 2)) tNil))) tNil))))))))
abbrev paT : List (Int × Int) := [(0, 1), (1, 2)]
theorem pa_ok : WebOk 3 paT := by
  refine ⟨by decide, by decide, by decide, by decide, ?_⟩
  simp [ltT]
theorem pa_conn : Conn 3 paT := by
  have st : ∀ x y : Int, tieOf x y ∈ paT → Wk (Tie paT) 1 x y := fun x y h => .snoc (.nil _) h
  have all : ∀ x : Int, 0 ≤ x → x < 3 → ∃ k, Wk (Tie paT) k 0 x := fun x x0 x1 => by
    have c : x = 0 ∨ x = 1 ∨ x = 2 := by omega
    rcases c with rfl | rfl | rfl
    · exact ⟨0, .nil _⟩
    · exact ⟨1, st 0 1 (by decide)⟩
    · exact ⟨2, (st 0 1 (by decide)).trans (st 1 2 (by decide))⟩
  intro x x0 x1 y y0 y1
  obtain ⟨k, w⟩ := all x x0 x1
  obtain ⟨j, v⟩ := all y y0 y1
  exact ⟨k + j, (w.rev (fun _ _ => Tie.symm)).trans v⟩
theorem sq_corn : cornB 4 sqT (0, 1) (0, 2) = false := by
  show crn 4 sqT 1 2 0 = false
  unfold crn
  simp only [nbs_due sq_ok]
  decide
theorem pa_corn : cornB 3 paT (0, 1) (1, 2) = true := by
  show crn 3 paT 0 2 1 = true
  unfold crn
  simp only [nbs_due pa_ok]
  decide
theorem pure_law {K : PySem.W.Frag} {vs : List V} {H : Hp} {Q : VK} {E : XK} (h : sp_law K vs H Q E) : t_law K (Fin Q) (start ["_law_script", "_law_k", "_law_web_here", "_law_handed", "_law_beside_here", "_law_digits", "_law_tie", "_law_other", "_law_due", "_law_found", "_law_square"] vs) H := by
  obtain ⟨a, ns, rfl, ha, hl, q⟩ := h
  have hsz : sizeLine = 16777216 := sizeLine_eq
  refine ⟨_, rfl, _, _, rfl, .inl ha, _, _, rfl, _, _, rfl, rfl, _, _, rfl, rfl, ⟨by decide, by decide⟩, 1, _, rfl, ?_⟩
  obtain ⟨m, hm⟩ : ∃ m : Int, m = (if ((if (32 : Int) < ((ns.map V.int).length : Int) then 32 else ((ns.map V.int).length : Int)) + 1) / 2 > 1 then ((if (32 : Int) < ((ns.map V.int).length : Int) then 32 else ((ns.map V.int).length : Int)) + 1) / 2 else 1) := ⟨_, rfl⟩
  have hm1 : 1 ≤ m ∧ m ≤ 32 := by
    rw [hm, List.length_map]
    split <;> split <;> omega
  rw [← hm]
  refine ⟨m, rfl, by omega, by omega, ?_⟩
  refine for_range (lo := 0) (n := m.toNat) (fun i σ H2 => ∃ (v1 v2 v3 v4 v5 v6 v7 v8 v9 : Option V), σ = [some (.ref a), v1, v2, v3, v4, v5, v6, v7, v8, v9, none] ∧ Same H H2) ⟨none, none, none, none, none, none, none, none, none, rfl, Same.refl _⟩ ?_ ?_
  · rintro i σ H1 hi ⟨v1, v2, v3, v4, v5, v6, v7, v8, v9, rfl, s1⟩
    refine ⟨_, rfl, _, rfl, _, rfl, _, _, rfl, rfl, .inl ⟨by decide, by decide⟩, _, _, rfl, rfl, a, ns, 0 + (i : Int), _, rfl, s1.seq ha, by omega, fun n ts p b xs H2 W C s2 np nb hp hb hx => ?_⟩
    have s12 := s1.trans s2
    have hxl := Paired.length hx
    have hfew := W.few
    -- handed, beside
    refine ⟨_, rfl, _, _, _, _, rfl, rfl, sqt hp, atI_nat (j := 0) rfl, _, rfl, _, _, _, _, rfl, rfl, sqt hp, atI_nat (j := 1) rfl, b, xs, rfl, .inl (sql hb), fun b' H3 nb' s3 hb' => ?_⟩
    refine ⟨by show 2 ≤ sizeLine; omega, fun hd H4 nhd s4 hhd => ?_⟩
    have s24 := s3.trans s4
    have hw : IsW H4 (.ref hd) n ts := ⟨hd, b', rfl, hhd, xs, s4 _ _ hb', Prs.mono s24 hx⟩
    have hw0 : IsW H4 (.ref p) n ts := ⟨p, b, rfl, s24 _ _ hp, xs, s24 _ _ hb, Prs.mono s24 hx⟩
    refine ⟨_, rfl, _, n, ts, rfl, hw0, W, fun bl bs H5 s5 nbl_ hbl B nd fr => ?_⟩
    -- digits
    have sH5 : Same H H5 := s12.trans (s24.trans s5)
    refine ⟨_, rfl, _, rfl, _, _, rfl, rfl, .inl ⟨by decide, by decide⟩, _, _, rfl, rfl, a, ns, 2 * (0 + (i : Int)) + 1, rfl, sH5.seq ha, by omega, fun c => ?_⟩
    refine ⟨_, rfl, _, _, rfl, rfl, by show 1 ≤ sizeLine; omega, fun l1 H6 nl1 s6 hl1 => ?_⟩
    refine ⟨by show 1 ≤ sizeLine; omega, fun l2 H7 nl2 s7 hl2 => ?_⟩
    refine ⟨l2, 9, _, rfl, rfl, hl2, by decide, by decide, by show 1 * 9 ≤ sizeLine; omega, fun l3 H8 nl3 s8 hl3 => ?_⟩
    refine ⟨l1, l3, _, _, rfl, rfl, s8 _ _ (s7 _ _ hl1), hl3, by rw [rep_flat]; simp; omega, fun l4 H9 nl4 s9 hl4 => ?_⟩
    have e4 : H9 l4 = some (.lst (([8] ++ List.replicate 9 (120 : Int)).map V.int)) := by
      rw [hl4, rep_flat, List.map_append]
      rfl
    refine ⟨c, _, l4, _, rfl, e4, fun z hz => ?_, by simp, fun ds d H10 D nd10 s10 hd10 => ?_⟩
    · rcases List.mem_append.mp hz with hz | hz
      · simp at hz
        omega
      · have := List.eq_of_mem_replicate hz
        omega
    have hdl : ds.length = 10 := by
      rw [← Paired.length D]
      simp
    refine ⟨1, rfl, d, _, rfl, sql hd10, fun dg H11 ndg s11 hdg => ?_⟩
    obtain ⟨es, ees, ees2⟩ := cut_ints (ds := ds) (lo := some 1) (hi := none)
    rw [ees] at hdg
    have el : es.length = 9 := by
      rw [ees2, HT.sIx_none, show HT.sIx ds.length 0 (some 1) = min 1 ds.length from HT.sIx_nat ds.length 0 1, List.length_take, List.length_drop]
      omega
    have s5b : Same H5 H11 := s6.trans (s7.trans (s8.trans (s9.trans (s10.trans s11))))
    have s4b : Same H4 H11 := s5.trans s5b
    have s2b : Same H2 H11 := s24.trans s4b
    have hp11 := s2b _ _ hp
    have hb11 := s2b _ _ hb
    -- the loop
    refine ⟨_, rfl, _, rfl, _, _, _, _, rfl, rfl, sqt hp11, atI_nat (j := 1) rfl, dg, b, es, xs, ts, rfl, hdg, by omega, by omega, hb11, Prs.mono s2b hx, W.few, fun lp H12 zs s12' hlp hz => ?_⟩
    refine ⟨lp, rfl, ⟨_, sql hlp⟩, ?_⟩
    refine for_list (K := K) (a := lp) (xs := zs) (fun j σ H13 => ∃ (v6 v7 v8 v9 : Option V), σ = [some (.ref a), some (.int (0 + (i : Int))), some (.ref p), some (.ref hd), some (.ref bl), some (.ref dg), v6, v7, v8, v9, none] ∧ Same H12 H13) ⟨_, _, _, _, rfl, Same.refl _⟩ (fun j σ H13 _ ⟨_, _, _, _, _, s⟩ => sql (s _ _ hlp)) ?_ ?_
    · rintro j v σ H13 hj ⟨w6, w7, w8, w9, rfl, s13⟩
      obtain ⟨T, x, y, t, u, rfl, hT, px, tm, py, um⟩ := (hz v (List.mem_of_getElem? hj)).mono s13
      have s5c : Same H5 H13 := s5b.trans (s12'.trans s13)
      have s4c : Same H4 H13 := s5.trans s5c
      refine ⟨T, _, rfl, sqt hT, rfl, _, _, rfl, _, _, rfl, rfl, ?_⟩
      refine ⟨_, rfl, _, rfl, _, rfl, bl, bs, x, y, n, ts, t, u, rfl, s5c _ _ hbl, B.mono s5c, W, px, tm, py, um, fun H14 s14 => ?_⟩
      refine ⟨_, rfl, _, rfl, _, rfl, _, x, y, n, ts, t, u, rfl, hw.mono (s4c.trans s14), W, C, px.mono s14, tm, py.mono s14, um, fun H15 s15 => ?_⟩
      have s35 := s14.trans s15
      refine ⟨_, rfl, _, rfl, _, rfl, _, y, x, n, ts, u, t, rfl, hw.mono (s4c.trans s35), W, C, py.mono s35, um, px.mono s35, tm, fun H16 s16 => ?_⟩
      rw [cornB_symm (W.good t tm).2.1 (W.good u um).2.1]
      have s36 := s35.trans s16
      refine ⟨by show 2 ≤ sizeLine; omega, fun lf H17 nlf s17 hlf => ?_⟩
      refine ⟨lf, rfl, ⟨_, sql hlf⟩, ?_⟩
      refine for_list (K := K) (a := lf) (xs := [.bl (cornB n ts t u), .bl (cornB n ts t u)]) (fun k σ H18 => ∃ v9 : Option V, σ = [some (.ref a), some (.int (0 + (i : Int))), some (.ref p), some (.ref hd), some (.ref bl), some (.ref dg), some x, some y, some (.bl (cornB n ts t u)), v9, none] ∧ Same H17 H18)
        ⟨_, rfl, Same.refl _⟩ (fun k σ H18 _ ⟨_, _, s⟩ => sql (s _ _ hlf)) ?_ ?_
      · rintro k v σ H18 hk ⟨v9', rfl, s18⟩
        have ev : v = .bl (cornB n ts t u) := by
          match k, hk with
          | 0, hk => exact (Option.some.inj hk).symm
          | 1, hk => exact (Option.some.inj hk).symm
        subst ev
        exact ⟨_, rfl, _, _, _, _, _, rfl, .ty "bool", ty_bl _, k_bb, _, rfl, iteF ⟨_, rfl, _, rfl, rfl, _, rfl, iteNS rfl ⟨_, rfl, s18⟩⟩⟩
      · rintro σ H18 ⟨v9', rfl, s18⟩
        exact ⟨_, _, _, _, rfl, s13.trans (s36.trans (s17.trans s18))⟩
    · rintro σ H13 ⟨w6, w7, w8, w9, rfl, s13⟩
      have s4c : Same H4 H13 := s4b.trans (s12'.trans s13)
      refine ⟨_, rfl, _, rfl, _, _, (hw.mono s4c).dp, (hw0.mono s4c).dp, shaped_web _ _, shaped_web _ _, _, rfl, ?_⟩
      rw [eqv_web, decide_eq_true ⟨rfl, rfl⟩]
      exact iteF ⟨_, _, _, _, _, _, _, _, _, rfl, s12.trans (s24.trans s4c)⟩
  · rintro σ H1 ⟨v1, v2, v3, v4, v5, v6, v7, v8, v9, rfl, s1⟩
    refine ⟨by show 2 ≤ sizeLine; omega, fun T1 H2 n2 s2 h2 => ⟨by show 2 ≤ sizeLine; omega, fun T2 H3 n3 s3 h3 => ⟨by show 2 ≤ sizeLine; omega, fun T3 H4 n4 s4 h4 => ⟨by show 2 ≤ sizeLine; omega, fun T4 H5 n5 s5 h5 => ?_⟩⟩⟩⟩
    refine ⟨by show 4 ≤ sizeLine; omega, fun l H6 n6 s6 h6 => ⟨by show 2 ≤ sizeLine; omega, fun w H7 n7 s7 h7 => ?_⟩⟩
    have s27 : Same H2 H7 := s3.trans (s4.trans (s5.trans (s6.trans s7)))
    have s37 : Same H3 H7 := s4.trans (s5.trans (s6.trans s7))
    have s47 : Same H4 H7 := s5.trans (s6.trans s7)
    have s57 : Same H5 H7 := s6.trans s7
    have hw : IsW H7 (.ref w) 4 sqT := ⟨w, l, rfl, h7, _, s7 _ _ h6, .cons ⟨T1, rfl, s27 _ _ h2⟩ (.cons ⟨T2, rfl, s37 _ _ h3⟩ (.cons ⟨T3, rfl, s47 _ _ h4⟩ (.cons ⟨T4, rfl, s57 _ _ h5⟩ .nil)))⟩
    refine ⟨_, rfl, by show 2 ≤ sizeLine; omega, fun T5 H8 n8 s8 h8 => ⟨by show 2 ≤ sizeLine; omega, fun T6 H9 n9 s9 h9 => ?_⟩⟩
    refine ⟨_, .ref T5, .ref T6, 4, sqT, (0, 1), (0, 2), rfl, hw.mono (s8.trans s9), sq_ok, sq_conn, ⟨T5, rfl, s9 _ _ h8⟩, by decide, ⟨T6, rfl, h9⟩, by decide, fun H10 s10 => ?_⟩
    rw [sq_corn]
    refine ⟨_, rfl, _, rfl, iteT ?_⟩
    refine ⟨by show 2 ≤ sizeLine; omega, fun U1 K1 m1 r1 k1 => ⟨by show 2 ≤ sizeLine; omega, fun U2 K2 m2 r2 k2 => ⟨by show 2 ≤ sizeLine; omega, fun lu K3 m3 r3 k3 => ⟨by show 2 ≤ sizeLine; omega, fun w2 K4 m4 r4 k4 => ?_⟩⟩⟩⟩
    have hw2 : IsW K4 (.ref w2) 3 paT := ⟨w2, lu, rfl, k4, _, r4 _ _ k3, .cons ⟨U1, rfl, r4 _ _ (r3 _ _ (r2 _ _ k1))⟩ (.cons ⟨U2, rfl, r4 _ _ (r3 _ _ k2)⟩ .nil)⟩
    refine ⟨by show 2 ≤ sizeLine; omega, fun T7 H11 n11 s11 h11 => ⟨by show 2 ≤ sizeLine; omega, fun T8 H12 n12 s12 h12 => ?_⟩⟩
    refine ⟨_, .ref T7, .ref T8, 3, paT, (0, 1), (1, 2), rfl, hw2.mono (s11.trans s12), pa_ok, pa_conn, ⟨T7, rfl, s12 _ _ h11⟩, by decide, ⟨T8, rfl, h12⟩, by decide, fun H13 s13 => ?_⟩
    rw [pa_corn]
    exact q H13
end G39

namespace G39.Lw
open PySem PySem.Spec PyProof.Rows L2
def topS (i : Nat) : Stmt := PySem.Challenge.pw_webtimes_k24_corner_links.main.body.getD i (.Pass ⟨0, 0, 0, 0⟩)
structure Blt (mg : Str → Option Value) : Prop where
  b_max : mg "max" = none
  b_len : mg "len" = none
  b_range : mg "range" = none
  b_list : mg "list" = none
  b_min : mg "min" = none
  b_sorted : mg "sorted" = none
  b_int : mg "int" = none
  b_set : mg "set" = none
  b_isinstance : mg "isinstance" = none
  b_bool : mg "bool" = none
  b_tuple : mg "tuple" = none
  b_enumerate : mg "enumerate" = none
  g_MOST_PLACES : ∃ t, mg "MOST_PLACES" = some (.int 40 t)
  g_MOST_TIES : ∃ t, mg "MOST_TIES" = some (.int 120 t)
section
variable {P : Program} {w : World} {K : PySem.W.Frag} {mg : Str → Option Value} {base : Heap}
abbrev s_law_numbers : Stmt := topS 24
abbrev n_law_numbers : List Str := ["_law_cell", "_law_salt", "_law_sizes", "_law_number", "_law_left", "_law_found", "_law_k", "_law_one"]
theorem sc_law_numbers : FnScope n_law_numbers ["_law_cell", "_law_salt", "_law_sizes"] (defScope s_law_numbers) := ⟨rfl, rfl, rfl, by decide +kernel, rfl, by decide +kernel, by decide +kernel⟩
theorem ok_law_numbers {f : Addr} {fd : FuncData} (F : Fun K "_law_numbers" "_law_numbers" s_law_numbers f fd) (B : Blt mg)  : FnG P w K mg base CX0 1 f fd ["_law_cell", "_law_salt", "_law_sizes"] (sp_law_numbers K) := by
  refine okG F sc_law_numbers (fun vs H Q E h => ?_) (fun cdv A outer s H vs Q E hr gd h => ⟨(tSeq (tAsg (tCB rMax2 (tCons (tVar 0) (tCons (tOp rSub (tUn rNeg (tC (.int 1))) (tVar 0)) tNil))) (gName 3))
    (tSeq (tAsg (tVar 3) (gName 4))
    (tSeq (tAsg (tLstG tNil) (gName 5))
    (tSeq (tFor (iRng1 (tCons (tCB (rLenSq K) (tCons (tVar 2) tNil)) tNil)) (gName 6) (tIfS (tAnd (tTest (tOp rGe (tVar 3) (tOp rPow (tC (.int 10)) (tC (.int 18))))) (tTest (tOp rGt (tVar 4) (tC (.int 0))))) (tSeq (tDrop (tBM K "list" rAppend (tVar 5) (tCons (tOp rMod (tVar 4) (tOp (rIxL K) (tVar 2) (tVar 6))) tNil)))
    (tAsg (tOp rDiv (tVar 4) (tOp (rIxL K) (tVar 2) (tVar 6))) (gName 4))) (tSeq (tAsg (tOp rMod (tOp rAdd (tOp rAdd (tOp rAdd (tVar 3) (tOp rMul (tC (.int 7919)) (tVar 1))) (tOp rMul (tOp rMul (tC (.int 101)) (tVar 6)) (tVar 6))) (tVar 6)) (tC (.int 2147483647))) (gName 7))
    (tSeq (tAsg (tOp rMod (tOp rMul (tVar 7) (tC (.int 48271))) (tC (.int 2147483647))) (gName 7))
    (tSeq (tAsg (tOp rMod (tOp rMul (tOp rMod (tOp rMul (tVar 7) (tVar 7)) (tC (.int 2147483629))) (tC (.int 48271))) (tC (.int 2147483647))) (gName 7))
    (tDrop (tBM K "list" rAppend (tVar 5) (tCons (tOp rMod (tOp rDiv (tVar 7) (tC (.int 16))) (tOp (rIxL K) (tVar 2) (tVar 6))) tNil))))))))
    (tRet (tVar 5)))))),
    PSs.nox ((pss_cons (ps_set (i := 3) sc_law_numbers.nd rfl (Or.inl rfl) (pe_callB (call_max2 rfl) (by rfl) B.b_max (by decide +kernel) (pa_cons (pv 0) (pa_cons (pe_op op_sub (pe_un un_neg pe_int) (pv 0)) pa_nil))))
    (pss_cons (ps_set (i := 4) sc_law_numbers.nd rfl (Or.inl rfl) (pv 3))
    (pss_cons (ps_set (i := 5) sc_law_numbers.nd rfl (Or.inl rfl) (pe_lstG pa_nil))
    (pss_cons (ps_for PassesOwn.never rfl (pi_range1 (by rfl) B.b_range (pa_cons (pe_callB call_len_seq (by rfl) B.b_len PySem.boot_len (pa_cons (pv 2) pa_nil)) pa_nil)) (pg_name (i := 6) sc_law_numbers.nd rfl (Or.inl rfl)) (pss_one (ps_if (PW.pt (pw_and (pt_cmpR op_ge (pv 3) (pe_op op_pow pe_int pe_int) (nomark _)) (pw_and1 (pt_cmpR op_gt (pv 4) pe_int (nomark _))))) (pss_cons (ps_expr (pe_bm PySem.F.plainAttrs_list PySem.F.slot_list_append PySem.F.type_list_append mt_append (pv 5) (pa_cons (pe_op op_mod (pv 4) (pe_ix ix_list (pv 2) (pv 6) (fun _ _ => rfl))) pa_nil)))
    (pss_one (ps_set (i := 4) sc_law_numbers.nd rfl (Or.inl rfl) (pe_op op_fdiv (pv 4) (pe_ix ix_list (pv 2) (pv 6) (fun _ _ => rfl)))))) (pss_cons (ps_set (i := 7) sc_law_numbers.nd rfl (Or.inl rfl) (pe_op op_mod (pe_op op_add (pe_op op_add (pe_op op_add (pv 3) (pe_op op_mul pe_int (pv 1))) (pe_op op_mul (pe_op op_mul pe_int (pv 6)) (pv 6))) (pv 6)) pe_int))
    (pss_cons (ps_set (i := 7) sc_law_numbers.nd rfl (Or.inl rfl) (pe_op op_mod (pe_op op_mul (pv 7) pe_int) pe_int))
    (pss_cons (ps_set (i := 7) sc_law_numbers.nd rfl (Or.inl rfl) (pe_op op_mod (pe_op op_mul (pe_op op_mod (pe_op op_mul (pv 7) (pv 7)) pe_int) pe_int) pe_int))
    (pss_one (ps_expr (pe_bm PySem.F.plainAttrs_list PySem.F.slot_list_append PySem.F.type_list_append mt_append (pv 5) (pa_cons (pe_op op_mod (pe_op op_fdiv (pv 7) pe_int) (pe_ix ix_list (pv 2) (pv 6) (fun _ _ => rfl))) pa_nil))))))))))
    (pss_one (ps_ret (pv 5)))))))), ?_⟩)
  · first | (obtain ⟨rfl, _⟩ := h; rfl) | (obtain ⟨_, rfl, _⟩ := h; rfl) | (obtain ⟨_, _, rfl, _⟩ := h; rfl) | (obtain ⟨_, _, _, rfl, _⟩ := h; rfl) | (obtain ⟨_, _, _, _, rfl, _⟩ := h; rfl) | (obtain ⟨_, _, _, _, _, rfl, _⟩ := h; rfl) | (obtain ⟨_, _, _, _, _, _, rfl, _⟩ := h; rfl) | (obtain ⟨_, _, _, _, _, _, _, rfl, _⟩ := h; rfl) | (obtain ⟨_, _, _, _, _, _, _, _, rfl, _⟩ := h; rfl) | (obtain ⟨_, _, _, _, _, _, _, _, _, rfl, _⟩ := h; rfl) | (obtain ⟨_, _, _, _, _, _, _, _, _, _, rfl, _⟩ := h; rfl) | (obtain ⟨_, _, _, _, _, _, _, _, _, _, _, rfl, _⟩ := h; rfl)
  · exact pure_law_numbers h
abbrev s_law_cell_at : Stmt := topS 23
abbrev n_law_cell_at : List Str := ["_law_script", "_law_k"]
theorem sc_law_cell_at : FnScope n_law_cell_at ["_law_script", "_law_k"] (defScope s_law_cell_at) := ⟨rfl, rfl, rfl, by decide +kernel, rfl, by decide +kernel, by decide +kernel⟩
theorem ok_law_cell_at {f : Addr} {fd : FuncData} (F : Fun K "_law_cell_at" "_law_cell_at" s_law_cell_at f fd) (B : Blt mg)  : FnG P w K mg base CX0 1 f fd ["_law_script", "_law_k"] (sp_law_cell_at K) := by
  refine okG F sc_law_cell_at (fun vs H Q E h => ?_) (fun cdv A outer s H vs Q E hr gd h => ⟨(tSeq (tIfS (tTest (tOp rLt (tVar 1) (tCB (rLenSq K) (tCons (tVar 0) tNil)))) (tRet (tOp (rIxL K) (tVar 0) (tVar 1))) tNext)
    (tRet (tC (.int 0)))),
    PSs.nox ((pss_cons (ps_if (pt_cmpR op_lt (pv 1) (pe_callB call_len_seq (by rfl) B.b_len PySem.boot_len (pa_cons (pv 0) pa_nil)) (nomark _)) (pss_one (ps_ret (pe_ix ix_list (pv 0) (pv 1) (fun _ _ => rfl)))) pss_nil)
    (pss_one (ps_ret pe_int)))), ?_⟩)
  · first | (obtain ⟨rfl, _⟩ := h; rfl) | (obtain ⟨_, rfl, _⟩ := h; rfl) | (obtain ⟨_, _, rfl, _⟩ := h; rfl) | (obtain ⟨_, _, _, rfl, _⟩ := h; rfl) | (obtain ⟨_, _, _, _, rfl, _⟩ := h; rfl) | (obtain ⟨_, _, _, _, _, rfl, _⟩ := h; rfl) | (obtain ⟨_, _, _, _, _, _, rfl, _⟩ := h; rfl) | (obtain ⟨_, _, _, _, _, _, _, rfl, _⟩ := h; rfl) | (obtain ⟨_, _, _, _, _, _, _, _, rfl, _⟩ := h; rfl) | (obtain ⟨_, _, _, _, _, _, _, _, _, rfl, _⟩ := h; rfl) | (obtain ⟨_, _, _, _, _, _, _, _, _, _, rfl, _⟩ := h; rfl) | (obtain ⟨_, _, _, _, _, _, _, _, _, _, _, rfl, _⟩ := h; rfl)
  · exact pure_law_cell_at h
abbrev s_law_web : Stmt := topS 25
abbrev n_law_web : List Str := ["_law_cell", "_law_salt", "_law_most", "_law_more", "_law_many", "_law_sizes", "_law_k", "_law_digits", "_law_names", "_law_order", "_law_pairs_here", "_law_digit", "_law_ties", "_law_one", "_law_other"]
theorem sc_law_web : FnScope n_law_web ["_law_cell", "_law_salt", "_law_most", "_law_more"] (defScope s_law_web) := ⟨rfl, rfl, rfl, by decide +kernel, rfl, by decide +kernel, by decide +kernel⟩
theorem ok_law_web {f : Addr} {fd : FuncData} (F : Fun K "_law_web" "_law_web" s_law_web f fd) (B : Blt mg) (c_law_numbers : Cal P w K mg base 1 "_law_numbers" ["_law_cell", "_law_salt", "_law_sizes"] (sp_law_numbers K)) : FnG P w K mg base CX0 2 f fd ["_law_cell", "_law_salt", "_law_most", "_law_more"] (sp_law_web K) := by
  refine okG F sc_law_web (fun vs H Q E h => ?_) (fun cdv A outer s H vs Q E hr gd h => ⟨(tSeq (tAsg (tOp rAdd (tC (.int 1)) (tOp (rIxL K) (tCall (sp_law_numbers K) [] E0 (tCons (tVar 0) (tCons (tVar 1) (tCons (tLstG (tCons (tVar 2) tNil)) tNil)))) (tC (.int 0)))) (gName 4))
    (tSeq (tAsg (tOp rCatG (tOp rCatG (tLstG (tCons (tVar 2) (tCons (tOp rAdd (tVar 3) (tC (.int 1))) tNil))) (tLc (iRng1 (tCons (tOp rSub (tVar 4) (tC (.int 1))) tNil)) (gName 6) tYes (tOp rAdd (tVar 6) (tC (.int 1))) [6])) (tLc (iRng1 (tCons (tVar 4) tNil)) (gName 6) tYes (tOp rSub (tVar 4) (tVar 6)) [6])) (gName 5))
    (tSeq (tAsg (tCall (sp_law_numbers K) [] E0 (tCons (tVar 0) (tCons (tVar 1) (tCons (tOp rCatG (tVar 5) (tOp rRepG (tLstG (tCons (tOp rMul (tVar 4) (tVar 4)) tNil)) (tVar 3))) tNil)))) (gName 7))
    (tSeq (tAsg (tLstRgG (tRg1 (tVar 4))) (gName 8))
    (tSeq (tAsg (tLstG tNil) (gName 9))
    (tSeq (tFor (iRng1 (tCons (tVar 4) tNil)) (gName 6) (tDrop (tBM K "list" rAppend (tVar 9) (tCons (tBM K "list" rPopAt (tVar 8) (tCons (tOp (rIxL K) (tVar 7) (tOp rAdd (tOp rAdd (tVar 4) (tC (.int 1))) (tVar 6))) tNil)) tNil))))
    (tSeq (tAsg (tLc (iRng1 (tCons (tOp rSub (tVar 4) (tC (.int 1))) tNil)) (gName 6) tYes (tTupG (tCons (tOp rAdd (tVar 6) (tC (.int 1))) (tCons (tOp (rIxL K) (tVar 7) (tOp rAdd (tC (.int 2)) (tVar 6))) tNil))) [6]) (gName 10))
    (tSeq (tFor (iList K (tSl (rSlLG K) (tVar 7) (tPart (tOp rAdd (tOp rMul (tC (.int 2)) (tVar 4)) (tC (.int 1)))) (tPart (tOp rAdd (tOp rAdd (tOp rMul (tC (.int 2)) (tVar 4)) (tC (.int 1))) (tOp (rIxL K) (tVar 7) (tC (.int 1))))))) (gName 11) (tDrop (tBM K "list" rAppend (tVar 10) (tCons (tTupG (tCons (tOp rDiv (tVar 11) (tVar 4)) (tCons (tOp rMod (tVar 11) (tVar 4)) tNil))) tNil))))
    (tSeq (tAsg tDNewTG (gName 12))
    (tSeq (tFor (iList K (tVar 10)) (gTup K 2 (gCons (gName 13) (gCons (gName 14) gNil))) (tIfS (tTest (tOp rNe (tVar 13) (tVar 14))) (sDPut (tVar 12) (tTupG (tCons (tCB rMin2 (tCons (tOp (rIxL K) (tVar 9) (tVar 13)) (tCons (tOp (rIxL K) (tVar 9) (tVar 14)) tNil))) (tCons (tCB rMax2 (tCons (tOp (rIxL K) (tVar 9) (tVar 13)) (tCons (tOp (rIxL K) (tVar 9) (tVar 14)) tNil))) tNil))) (tC (.bl true))) tNext))
    (tRet (tTupG (tCons (tVar 4) (tCons (tCB rSortedDT (tCons (tVar 12) tNil)) tNil)))))))))))))),
    PSs.nox ((pss_cons (ps_set (i := 4) sc_law_web.nd rfl (Or.inr rfl) (pe_op op_add pe_int (pe_ix ix_list (pe_own c_law_numbers (hr.mono (by decide)) gd (by rfl) (pa_cons (pv 0) (pa_cons (pv 1) (pa_cons (pe_lstG (pa_cons (pv 2) pa_nil)) pa_nil)))) pe_int (fun _ _ => rfl))))
    (pss_cons (ps_set (i := 5) sc_law_web.nd rfl (Or.inl rfl) (pe_op op_catG (pe_op op_catG (pe_lstG (pa_cons (pv 2) (pa_cons (pe_op op_add (pv 3) pe_int) pa_nil))) (pe_lc (own := [("_law_k", 6)]) (g := (gName 6)) (tt := tYes) (by rfl) sc_law_web.nd (pi_range1 (by rfl) B.b_range (pa_cons (pe_op op_sub (pv 4) pe_int) pa_nil)) (blkOk_by (own := [("_law_k", 6)]) (N := n_law_web) (sc := defScope s_law_web) (by decide +kernel)) (fun _ _ _ _ _ => (pg_name (i := 6) sc_law_web.nd rfl (Or.inl rfl))) (fun _ _ _ _ _ => pts_nil) (fun _ _ _ _ _ => (pe_op op_add (pv 6) pe_int)))) (pe_lc (own := [("_law_k", 6)]) (g := (gName 6)) (tt := tYes) (by rfl) sc_law_web.nd (pi_range1 (by rfl) B.b_range (pa_cons (pv 4) pa_nil)) (blkOk_by (own := [("_law_k", 6)]) (N := n_law_web) (sc := defScope s_law_web) (by decide +kernel)) (fun _ _ _ _ _ => (pg_name (i := 6) sc_law_web.nd rfl (Or.inl rfl))) (fun _ _ _ _ _ => pts_nil) (fun _ _ _ _ _ => (pe_op op_sub (pv 4) (pv 6))))))
    (pss_cons (ps_set (i := 7) sc_law_web.nd rfl (Or.inr rfl) (pe_own c_law_numbers (hr.mono (by decide)) gd (by rfl) (pa_cons (pv 0) (pa_cons (pv 1) (pa_cons (pe_op op_catG (pv 5) (pe_op op_repG (pe_lstG (pa_cons (pe_op op_mul (pv 4) (pv 4)) pa_nil)) (pv 3))) pa_nil)))))
    (pss_cons (ps_set (i := 8) sc_law_web.nd rfl (Or.inl rfl) (pe_listRgG (by rfl) (by rfl) B.b_list (prg_1 (by rfl) B.b_range (pv 4))))
    (pss_cons (ps_set (i := 9) sc_law_web.nd rfl (Or.inl rfl) (pe_lstG pa_nil))
    (pss_cons (ps_for PassesOwn.never rfl (pi_range1 (by rfl) B.b_range (pa_cons (pv 4) pa_nil)) (pg_name (i := 6) sc_law_web.nd rfl (Or.inl rfl)) (pss_one (ps_expr (pe_bm PySem.F.plainAttrs_list PySem.F.slot_list_append PySem.F.type_list_append mt_append (pv 9) (pa_cons (pe_bm PySem.F.plainAttrs_list PySem.F.slot_list_pop PySem.F.type_list_pop mt_popAt (pv 8) (pa_cons (pe_ix ix_list (pv 7) (pe_op op_add (pe_op op_add (pv 4) pe_int) (pv 6)) (fun _ _ => rfl)) pa_nil)) pa_nil)))))
    (pss_cons (ps_setLc (i := 10) (own := [("_law_k", 6)]) (g := (gName 6)) (tt := tYes) (by rfl) sc_law_web.nd rfl rfl (sw_true rfl rfl rfl (by decide +kernel)) (pi_range1 (by rfl) B.b_range (pa_cons (pe_op op_sub (pv 4) pe_int) pa_nil)) (blkOk_by (own := [("_law_k", 6)]) (N := n_law_web) (sc := defScope s_law_web) (by decide +kernel)) (fun _ _ _ _ _ => (pg_name (i := 6) sc_law_web.nd rfl (Or.inl rfl))) (fun _ _ _ _ _ => pts_nil) (fun _ _ _ _ _ => (pe_tupG (pa_cons (pe_op op_add (pv 6) pe_int) (pa_cons (pe_ix ix_list (pv 7) (pe_op op_add pe_int (pv 6)) (fun _ _ => rfl)) pa_nil)))))
    (pss_cons (ps_for PassesOwn.never rfl (pi_list (pe_slice sl_listG (pv 7) (po_some (pe_op op_add (pe_op op_mul pe_int (pv 4)) pe_int)) (po_some (pe_op op_add (pe_op op_add (pe_op op_mul pe_int (pv 4)) pe_int) (pe_ix ix_list (pv 7) pe_int (fun _ _ => rfl)))))) (pg_name (i := 11) sc_law_web.nd rfl (Or.inl rfl)) (pss_one (ps_expr (pe_bm PySem.F.plainAttrs_list PySem.F.slot_list_append PySem.F.type_list_append mt_append (pv 10) (pa_cons (pe_tupG (pa_cons (pe_op op_fdiv (pv 11) (pv 4)) (pa_cons (pe_op op_mod (pv 11) (pv 4)) pa_nil))) pa_nil)))))
    (pss_cons (ps_set (i := 12) sc_law_web.nd rfl (Or.inl rfl) pe_dnewTG)
    (pss_cons (ps_for PassesOwn.never rfl (pi_list (pv 10)) (pg_tup (by rfl) (pgs_cons (pg_name (i := 13) sc_law_web.nd rfl (Or.inl rfl)) (pgs_cons (pg_name (i := 14) sc_law_web.nd rfl (Or.inl rfl)) pgs_nil))) (pss_one (ps_if (pt_cmpR op_ne (pv 13) (pv 14) (nomark _)) (pss_one (ps_dput (hu_of hr) (pv 12) (pe_tupG (pa_cons (pe_callB (call_min2 rfl) (by rfl) B.b_min (by decide +kernel) (pa_cons (pe_ix ix_list (pv 9) (pv 13) (fun _ _ => rfl)) (pa_cons (pe_ix ix_list (pv 9) (pv 14) (fun _ _ => rfl)) pa_nil))) (pa_cons (pe_callB (call_max2 rfl) (by rfl) B.b_max (by decide +kernel) (pa_cons (pe_ix ix_list (pv 9) (pv 13) (fun _ _ => rfl)) (pa_cons (pe_ix ix_list (pv 9) (pv 14) (fun _ _ => rfl)) pa_nil))) pa_nil))) pe_bl rfl)) pss_nil)))
    (pss_one (ps_ret (pe_tupG (pa_cons (pv 4) (pa_cons (pe_callB (cr_sortedDT rfl) (by rfl) B.b_sorted (by decide +kernel) (pa_cons (pv 12) pa_nil)) pa_nil)))))))))))))))), ?_⟩)
  · first | (obtain ⟨rfl, _⟩ := h; rfl) | (obtain ⟨_, rfl, _⟩ := h; rfl) | (obtain ⟨_, _, rfl, _⟩ := h; rfl) | (obtain ⟨_, _, _, rfl, _⟩ := h; rfl) | (obtain ⟨_, _, _, _, rfl, _⟩ := h; rfl) | (obtain ⟨_, _, _, _, _, rfl, _⟩ := h; rfl) | (obtain ⟨_, _, _, _, _, _, rfl, _⟩ := h; rfl) | (obtain ⟨_, _, _, _, _, _, _, rfl, _⟩ := h; rfl) | (obtain ⟨_, _, _, _, _, _, _, _, rfl, _⟩ := h; rfl) | (obtain ⟨_, _, _, _, _, _, _, _, _, rfl, _⟩ := h; rfl) | (obtain ⟨_, _, _, _, _, _, _, _, _, _, rfl, _⟩ := h; rfl) | (obtain ⟨_, _, _, _, _, _, _, _, _, _, _, rfl, _⟩ := h; rfl)
  · exact pure_law_web h
abbrev s_law_one_web : Stmt := topS 26
abbrev n_law_one_web : List Str := ["_law_script", "_law_k", "_law_salt", "_law_head", "_law_most", "_law_more"]
theorem sc_law_one_web : FnScope n_law_one_web ["_law_script", "_law_k", "_law_salt"] (defScope s_law_one_web) := ⟨rfl, rfl, rfl, by decide +kernel, rfl, by decide +kernel, by decide +kernel⟩
theorem ok_law_one_web {f : Addr} {fd : FuncData} (F : Fun K "_law_one_web" "_law_one_web" s_law_one_web f fd) (B : Blt mg) (c_law_numbers : Cal P w K mg base 1 "_law_numbers" ["_law_cell", "_law_salt", "_law_sizes"] (sp_law_numbers K)) (c_law_cell_at : Cal P w K mg base 1 "_law_cell_at" ["_law_script", "_law_k"] (sp_law_cell_at K)) (c_law_web : Cal P w K mg base 2 "_law_web" ["_law_cell", "_law_salt", "_law_most", "_law_more"] (sp_law_web K)) : FnG P w K mg base CX0 3 f fd ["_law_script", "_law_k", "_law_salt"] (sp_law_one_web K) := by
  refine okG F sc_law_one_web (fun vs H Q E h => ?_) (fun cdv A outer s H vs Q E hr gd h => ⟨(tSeq (tAsg (tCall (sp_law_numbers K) [] E0 (tCons (tCall (sp_law_cell_at K) [] E0 (tCons (tVar 0) (tCons (tOp rAdd (tOp rMul (tC (.int 2)) (tVar 1)) (tC (.int 1))) tNil))) (tCons (tOp rAdd (tVar 2) (tC (.int 1))) (tCons (tLstG (tCons (tC (.int 8)) tNil)) tNil)))) (gName 3))
    (tSeq (tAsg (tOp (rIxL K) (tLstG (tCons (tTupG (tCons (tC (.int 9)) (tCons (tC (.int 6)) tNil))) (tCons (tTupG (tCons (tC (.int 40)) (tCons (tC (.int 81)) tNil))) tNil))) (tCB rInt1 (tCons (tAndV (tOp rEq (tOp (rIxL K) (tVar 3) (tC (.int 0))) (tC (.int 7))) (tOp rEq (tOp rMod (tVar 1) (tC (.int 4))) (tC (.int 0)))) tNil))) (gTup K 2 (gCons (gName 4) (gCons (gName 5) gNil))))
    (tRet (tCall (sp_law_web K) [] E0 (tCons (tCall (sp_law_cell_at K) [] E0 (tCons (tVar 0) (tCons (tOp rMul (tC (.int 2)) (tVar 1)) tNil))) (tCons (tVar 2) (tCons (tVar 4) (tCons (tVar 5) tNil)))))))),
    PSs.nox ((pss_cons (ps_set (i := 3) sc_law_one_web.nd rfl (Or.inl rfl) (pe_own c_law_numbers (hr.mono (by decide)) gd (by rfl) (pa_cons (pe_own c_law_cell_at (hr.mono (by decide)) gd (by rfl) (pa_cons (pv 0) (pa_cons (pe_op op_add (pe_op op_mul pe_int (pv 1)) pe_int) pa_nil))) (pa_cons (pe_op op_add (pv 2) pe_int) (pa_cons (pe_lstG (pa_cons pe_int pa_nil)) pa_nil)))))
    (pss_cons (ps_asg (pe_ix ix_list (pe_lstG (pa_cons (pe_tupG (pa_cons pe_int (pa_cons pe_int pa_nil))) (pa_cons (pe_tupG (pa_cons pe_int (pa_cons pe_int pa_nil))) pa_nil))) (pe_callTy call_int1 (by rfl) B.b_int (by decide +kernel) (pa_cons (pe_and (pe_cmpR op_eq (pe_ix ix_list (pv 3) pe_int (fun _ _ => rfl)) pe_int (nomark _)) (pe_one (pe_cmpR op_eq (pe_op op_mod (pv 1) pe_int) pe_int (nomark _)))) pa_nil)) (fun _ _ => rfl)) (pg_tup (by rfl) (pgs_cons (pg_name (i := 4) sc_law_one_web.nd rfl (Or.inl rfl)) (pgs_cons (pg_name (i := 5) sc_law_one_web.nd rfl (Or.inl rfl)) pgs_nil))))
    (pss_one (ps_ret (pe_own c_law_web (hr.mono (by decide)) gd (by rfl) (pa_cons (pe_own c_law_cell_at (hr.mono (by decide)) gd (by rfl) (pa_cons (pv 0) (pa_cons (pe_op op_mul pe_int (pv 1)) pa_nil))) (pa_cons (pv 2) (pa_cons (pv 4) (pa_cons (pv 5) pa_nil)))))))))), ?_⟩)
  · first | (obtain ⟨rfl, _⟩ := h; rfl) | (obtain ⟨_, rfl, _⟩ := h; rfl) | (obtain ⟨_, _, rfl, _⟩ := h; rfl) | (obtain ⟨_, _, _, rfl, _⟩ := h; rfl) | (obtain ⟨_, _, _, _, rfl, _⟩ := h; rfl) | (obtain ⟨_, _, _, _, _, rfl, _⟩ := h; rfl) | (obtain ⟨_, _, _, _, _, _, rfl, _⟩ := h; rfl) | (obtain ⟨_, _, _, _, _, _, _, rfl, _⟩ := h; rfl) | (obtain ⟨_, _, _, _, _, _, _, _, rfl, _⟩ := h; rfl) | (obtain ⟨_, _, _, _, _, _, _, _, _, rfl, _⟩ := h; rfl) | (obtain ⟨_, _, _, _, _, _, _, _, _, _, rfl, _⟩ := h; rfl) | (obtain ⟨_, _, _, _, _, _, _, _, _, _, _, rfl, _⟩ := h; rfl)
  · exact pure_law_one_web h
abbrev s_law_beside : Stmt := topS 27
abbrev n_law_beside : List Str := ["_law_web_here", "_law_found", "_law_one", "_law_other", "_law_place", "_law_places"]
theorem sc_law_beside : FnScope n_law_beside ["_law_web_here"] (defScope s_law_beside) := ⟨rfl, rfl, rfl, by decide +kernel, rfl, by decide +kernel, by decide +kernel⟩
theorem ok_law_beside {f : Addr} {fd : FuncData} (F : Fun K "_law_beside" "_law_beside" s_law_beside f fd) (B : Blt mg)  : FnG P w K mg base CX0 1 f fd ["_law_web_here"] (sp_law_beside K) := by
  refine okG F sc_law_beside (fun vs H Q E h => ?_) (fun cdv A outer s H vs Q E hr gd h => ⟨(tSeq (tAsg (tLc (iRng1 (tCons (tOp (rIxT K) (tVar 0) (tC (.int 0))) tNil)) (gName 4) tYes (tLstG tNil) [4]) (gName 1))
    (tSeq (tFor (iList K (tOp (rIxT K) (tVar 0) (tC (.int 1)))) (gTup K 2 (gCons (gName 2) (gCons (gName 3) gNil))) (tSeq (tDrop (tBM K "list" rAppend (tOp (rIxL K) (tVar 1) (tVar 2)) (tCons (tVar 3) tNil)))
    (tDrop (tBM K "list" rAppend (tOp (rIxL K) (tVar 1) (tVar 3)) (tCons (tVar 2) tNil)))))
    (tRet (tLc (iList K (tVar 1)) (gName 5) tYes (tCB (rSrtIG K) (tCons (tVar 5) tNil)) [5])))),
    PSs.nox ((pss_cons (ps_setLc (i := 1) (own := [("_law_place", 4)]) (g := (gName 4)) (tt := tYes) (by rfl) sc_law_beside.nd rfl rfl (sw_true rfl rfl rfl (by decide +kernel)) (pi_range1 (by rfl) B.b_range (pa_cons (pe_ix ix_tup (pv 0) pe_int (fun _ _ => rfl)) pa_nil)) (blkOk_by (own := [("_law_place", 4)]) (N := n_law_beside) (sc := defScope s_law_beside) (by decide +kernel)) (fun _ _ _ _ _ => (pg_name (i := 4) sc_law_beside.nd rfl (Or.inl rfl))) (fun _ _ _ _ _ => pts_nil) (fun _ _ _ _ _ => (pe_lstG pa_nil)))
    (pss_cons (ps_for PassesOwn.never rfl (pi_list (pe_ix ix_tup (pv 0) pe_int (fun _ _ => rfl))) (pg_tup (by rfl) (pgs_cons (pg_name (i := 2) sc_law_beside.nd rfl (Or.inl rfl)) (pgs_cons (pg_name (i := 3) sc_law_beside.nd rfl (Or.inl rfl)) pgs_nil))) (pss_cons (ps_expr (pe_bm PySem.F.plainAttrs_list PySem.F.slot_list_append PySem.F.type_list_append mt_append (pe_ix ix_list (pv 1) (pv 2) (fun _ _ => rfl)) (pa_cons (pv 3) pa_nil)))
    (pss_one (ps_expr (pe_bm PySem.F.plainAttrs_list PySem.F.slot_list_append PySem.F.type_list_append mt_append (pe_ix ix_list (pv 1) (pv 3) (fun _ _ => rfl)) (pa_cons (pv 2) pa_nil))))))
    (pss_one (ps_ret (pe_lc (own := [("_law_places", 5)]) (g := (gName 5)) (tt := tYes) (by rfl) sc_law_beside.nd (pi_list (pv 1)) (blkOk_by (own := [("_law_places", 5)]) (N := n_law_beside) (sc := defScope s_law_beside) (by decide +kernel)) (fun _ _ _ _ _ => (pg_name (i := 5) sc_law_beside.nd rfl (Or.inl rfl))) (fun _ _ _ _ _ => pts_nil) (fun _ _ _ _ _ => (pe_callB cr_srtIG (by rfl) B.b_sorted (by decide +kernel) (pa_cons (pv 5) pa_nil))))))))), ?_⟩)
  · first | (obtain ⟨rfl, _⟩ := h; rfl) | (obtain ⟨_, rfl, _⟩ := h; rfl) | (obtain ⟨_, _, rfl, _⟩ := h; rfl) | (obtain ⟨_, _, _, rfl, _⟩ := h; rfl) | (obtain ⟨_, _, _, _, rfl, _⟩ := h; rfl) | (obtain ⟨_, _, _, _, _, rfl, _⟩ := h; rfl) | (obtain ⟨_, _, _, _, _, _, rfl, _⟩ := h; rfl) | (obtain ⟨_, _, _, _, _, _, _, rfl, _⟩ := h; rfl) | (obtain ⟨_, _, _, _, _, _, _, _, rfl, _⟩ := h; rfl) | (obtain ⟨_, _, _, _, _, _, _, _, _, rfl, _⟩ := h; rfl) | (obtain ⟨_, _, _, _, _, _, _, _, _, _, rfl, _⟩ := h; rfl) | (obtain ⟨_, _, _, _, _, _, _, _, _, _, _, rfl, _⟩ := h; rfl)
  · exact pure_law_beside h
abbrev s_law_pairs : Stmt := topS 29
abbrev n_law_pairs : List Str := ["_law_digits", "_law_ties", "_law_found", "_law_tie", "_law_other", "_law_digit"]
theorem sc_law_pairs : FnScope n_law_pairs ["_law_digits", "_law_ties"] (defScope s_law_pairs) := ⟨rfl, rfl, rfl, by decide +kernel, rfl, by decide +kernel, by decide +kernel⟩
theorem ok_law_pairs {f : Addr} {fd : FuncData} (F : Fun K "_law_pairs" "_law_pairs" s_law_pairs f fd) (B : Blt mg)  : FnG P w K mg base CX0 1 f fd ["_law_digits", "_law_ties"] (sp_law_pairs K) := by
  refine okG F sc_law_pairs (fun vs H Q E h => ?_) (fun cdv A outer s H vs Q E hr gd h => ⟨(tSeq (tAsg (tLstG tNil) (gName 2))
    (tSeq (tIfS (tTest (tOp (rNeD K) (tVar 1) (tLstG tNil))) (tSeq (tAsg (tOp (rIxL K) (tVar 1) (tOp rMod (tOp (rIxL K) (tVar 0) (tC (.int 0))) (tCB (rLenSq K) (tCons (tVar 1) tNil)))) (gName 3))
    (tSeq (tAsg (tSl (rSlLG K) (tLc (iList K (tVar 1)) (gName 4) (tOr (tTest (tOp (rIn K false) (tOp (rIxT K) (tVar 3) (tC (.int 0))) (tVar 4))) (tTest (tOp (rIn K false) (tOp (rIxT K) (tVar 3) (tC (.int 1))) (tVar 4)))) (tTupG (tCons (tVar 3) (tCons (tVar 4) tNil))) [4]) tNoPart (tPart (tC (.int 24)))) (gName 2))
    (tAsg (tOp rCatG (tVar 2) (tLc (iList K (tSl (rSlLG K) (tVar 0) (tPart (tC (.int 1))) tNoPart)) (gName 5) tYes (tTupG (tCons (tVar 3) (tCons (tOp (rIxL K) (tVar 1) (tOp rMod (tVar 5) (tCB (rLenSq K) (tCons (tVar 1) tNil)))) tNil))) [5])) (gName 2)))) tNext)
    (tRet (tVar 2)))),
    PSs.nox ((pss_cons (ps_set (i := 2) sc_law_pairs.nd rfl (Or.inl rfl) (pe_lstG pa_nil))
    (pss_cons (ps_if (pt_cmpR (op_neD hr.units) (pv 1) (pe_lstG pa_nil) (nomark _)) (pss_cons (ps_set (i := 3) sc_law_pairs.nd rfl (Or.inr rfl) (pe_ix ix_list (pv 1) (pe_op op_mod (pe_ix ix_list (pv 0) pe_int (fun _ _ => rfl)) (pe_callB call_len_seq (by rfl) B.b_len PySem.boot_len (pa_cons (pv 1) pa_nil))) (fun _ _ => rfl)))
    (pss_cons (ps_set (i := 2) sc_law_pairs.nd rfl (Or.inl rfl) (pe_slice sl_listG (pe_lc (own := [("_law_other", 4)]) (g := (gName 4)) (tt := (tOr (tTest (tOp (rIn K false) (tOp (rIxT K) (tVar 3) (tC (.int 0))) (tVar 4))) (tTest (tOp (rIn K false) (tOp (rIxT K) (tVar 3) (tC (.int 1))) (tVar 4))))) (by rfl) sc_law_pairs.nd (pi_list (pv 1)) (blkOk_by (own := [("_law_other", 4)]) (N := n_law_pairs) (sc := defScope s_law_pairs) (by decide +kernel)) (fun _ _ _ _ _ => (pg_name (i := 4) sc_law_pairs.nd rfl (Or.inl rfl))) (fun _ _ _ _ _ => (pts_one (PW.pt (pw_or (pt_cmpR op_in_seq (pe_ix ix_tup (pv 3) pe_int (fun _ _ => rfl)) (pv 4) (by rfl)) (pw_or1 (pt_cmpR op_in_seq (pe_ix ix_tup (pv 3) pe_int (fun _ _ => rfl)) (pv 4) (by rfl))))))) (fun _ _ _ _ _ => (pe_tupG (pa_cons (pv 3) (pa_cons (pv 4) pa_nil))))) po_none (po_some pe_int)))
    (pss_one (ps_set (i := 2) sc_law_pairs.nd rfl (Or.inl rfl) (pe_op op_catG (pv 2) (pe_lc (own := [("_law_digit", 5)]) (g := (gName 5)) (tt := tYes) (by rfl) sc_law_pairs.nd (pi_list (pe_slice sl_listG (pv 0) (po_some pe_int) po_none)) (blkOk_by (own := [("_law_digit", 5)]) (N := n_law_pairs) (sc := defScope s_law_pairs) (by decide +kernel)) (fun _ _ _ _ _ => (pg_name (i := 5) sc_law_pairs.nd rfl (Or.inl rfl))) (fun _ _ _ _ _ => pts_nil) (fun _ _ _ _ _ => (pe_tupG (pa_cons (pv 3) (pa_cons (pe_ix ix_list (pv 1) (pe_op op_mod (pv 5) (pe_callB call_len_seq (by rfl) B.b_len PySem.boot_len (pa_cons (pv 1) pa_nil))) (fun _ _ => rfl)) pa_nil)))))))))) pss_nil)
    (pss_one (ps_ret (pv 2)))))), ?_⟩)
  · first | (obtain ⟨rfl, _⟩ := h; rfl) | (obtain ⟨_, rfl, _⟩ := h; rfl) | (obtain ⟨_, _, rfl, _⟩ := h; rfl) | (obtain ⟨_, _, _, rfl, _⟩ := h; rfl) | (obtain ⟨_, _, _, _, rfl, _⟩ := h; rfl) | (obtain ⟨_, _, _, _, _, rfl, _⟩ := h; rfl) | (obtain ⟨_, _, _, _, _, _, rfl, _⟩ := h; rfl) | (obtain ⟨_, _, _, _, _, _, _, rfl, _⟩ := h; rfl) | (obtain ⟨_, _, _, _, _, _, _, _, rfl, _⟩ := h; rfl) | (obtain ⟨_, _, _, _, _, _, _, _, _, rfl, _⟩ := h; rfl) | (obtain ⟨_, _, _, _, _, _, _, _, _, _, rfl, _⟩ := h; rfl) | (obtain ⟨_, _, _, _, _, _, _, _, _, _, _, rfl, _⟩ := h; rfl)
  · exact pure_law_pairs h
abbrev s_law_is_corner : Stmt := topS 28
abbrev n_law_is_corner : List Str := ["_law_beside_here", "_law_tie", "_law_other", "_law_ends", "_law_middle", "_law_outer", "_law_both", "_law_place"]
theorem sc_law_is_corner : FnScope n_law_is_corner ["_law_beside_here", "_law_tie", "_law_other"] (defScope s_law_is_corner) := ⟨rfl, rfl, rfl, by decide +kernel, rfl, by decide +kernel, by decide +kernel⟩
theorem ok_law_is_corner {f : Addr} {fd : FuncData} (F : Fun K "_law_is_corner" "_law_is_corner" s_law_is_corner f fd) (B : Blt mg)  : FnG P w K mg base CX0 1 f fd ["_law_beside_here", "_law_tie", "_law_other"] (sp_law_is_corner K) := by
  refine okG F sc_law_is_corner (fun vs H Q E h => ?_) (fun cdv A outer s H vs Q E hr gd h => ⟨(tSeq (tAsg (tSortSetT K (tCons (tOp (rCatTG K) (tVar 1) (tVar 2)) tNil)) (gName 3))
    (tSeq (tAsg (tLc (iList K (tVar 3)) (gName 7) (tAnd (tTest (tOp (rIn K false) (tVar 7) (tVar 1))) (tTest (tOp (rIn K false) (tVar 7) (tVar 2)))) (tVar 7) [7]) (gName 4))
    (tSeq (tIfS (tTest (tOp rNe (tCB (rLenSq K) (tCons (tVar 3) tNil)) (tC (.int 3)))) (tRet (tC (.bl false))) tNext)
    (tSeq (tAsg (tLc (iList K (tVar 3)) (gName 7) (tTest (tOp (rIn K true) (tVar 7) (tVar 4))) (tVar 7) [7]) (gName 5))
    (tSeq (tAsg (tLc (iRng1 (tCons (tCB (rLenSq K) (tCons (tVar 0) tNil)) tNil)) (gName 7) (tAnd (tTest (tOp (rIn K false) (tVar 7) (tOp (rIxL K) (tVar 0) (tOp (rIxL K) (tVar 5) (tC (.int 0)))))) (tTest (tOp (rIn K false) (tVar 7) (tOp (rIxL K) (tVar 0) (tOp (rIxL K) (tVar 5) (tC (.int 1))))))) (tVar 7) [7]) (gName 6))
    (tRet (tOp (rEqD K) (tVar 6) (tVar 4)))))))),
    PSs.nox ((pss_cons (ps_set (i := 3) sc_law_is_corner.nd rfl (Or.inl rfl) (pe_sortSetT rfl B.b_sorted B.b_set (by rfl) (by rfl) (pa_cons (pe_op op_catTG (pv 1) (pv 2)) pa_nil)))
    (pss_cons (ps_set (i := 4) sc_law_is_corner.nd rfl (Or.inr rfl) (pe_lc (own := [("_law_place", 7)]) (g := (gName 7)) (tt := (tAnd (tTest (tOp (rIn K false) (tVar 7) (tVar 1))) (tTest (tOp (rIn K false) (tVar 7) (tVar 2))))) (by rfl) sc_law_is_corner.nd (pi_list (pv 3)) (blkOk_by (own := [("_law_place", 7)]) (N := n_law_is_corner) (sc := defScope s_law_is_corner) (by decide +kernel)) (fun _ _ _ _ _ => (pg_name (i := 7) sc_law_is_corner.nd rfl (Or.inl rfl))) (fun _ _ _ _ _ => (pts_one (PW.pt (pw_and (pt_cmpR op_in_seq (pv 7) (pv 1) (by rfl)) (pw_and1 (pt_cmpR op_in_seq (pv 7) (pv 2) (by rfl))))))) (fun _ _ _ _ _ => (pv 7))))
    (pss_cons (ps_if (pt_cmpR op_ne (pe_callB call_len_seq (by rfl) B.b_len PySem.boot_len (pa_cons (pv 3) pa_nil)) pe_int (nomark _)) (pss_one (ps_ret pe_bl)) pss_nil)
    (pss_cons (ps_set (i := 5) sc_law_is_corner.nd rfl (Or.inr rfl) (pe_lc (own := [("_law_place", 7)]) (g := (gName 7)) (tt := (tTest (tOp (rIn K true) (tVar 7) (tVar 4)))) (by rfl) sc_law_is_corner.nd (pi_list (pv 3)) (blkOk_by (own := [("_law_place", 7)]) (N := n_law_is_corner) (sc := defScope s_law_is_corner) (by decide +kernel)) (fun _ _ _ _ _ => (pg_name (i := 7) sc_law_is_corner.nd rfl (Or.inl rfl))) (fun _ _ _ _ _ => (pts_one (pt_cmpR op_notIn_seq (pv 7) (pv 4) (by rfl)))) (fun _ _ _ _ _ => (pv 7))))
    (pss_cons (ps_setLc (i := 6) (own := [("_law_place", 7)]) (g := (gName 7)) (tt := (tAnd (tTest (tOp (rIn K false) (tVar 7) (tOp (rIxL K) (tVar 0) (tOp (rIxL K) (tVar 5) (tC (.int 0)))))) (tTest (tOp (rIn K false) (tVar 7) (tOp (rIxL K) (tVar 0) (tOp (rIxL K) (tVar 5) (tC (.int 1)))))))) (by rfl) sc_law_is_corner.nd rfl rfl (sw_true rfl rfl rfl (by decide +kernel)) (pi_range1 (by rfl) B.b_range (pa_cons (pe_callB call_len_seq (by rfl) B.b_len PySem.boot_len (pa_cons (pv 0) pa_nil)) pa_nil)) (blkOk_by (own := [("_law_place", 7)]) (N := n_law_is_corner) (sc := defScope s_law_is_corner) (by decide +kernel)) (fun _ _ _ _ _ => (pg_name (i := 7) sc_law_is_corner.nd rfl (Or.inl rfl))) (fun _ _ _ _ _ => (pts_one (PW.pt (pw_and (pt_cmpR op_in_seq (pv 7) (pe_ix ix_list (pv 0) (pe_ix ix_list (pv 5) pe_int (fun _ _ => rfl)) (fun _ _ => rfl)) (by rfl)) (pw_and1 (pt_cmpR op_in_seq (pv 7) (pe_ix ix_list (pv 0) (pe_ix ix_list (pv 5) pe_int (fun _ _ => rfl)) (fun _ _ => rfl)) (by rfl))))))) (fun _ _ _ _ _ => (pv 7)))
    (pss_one (ps_ret (pe_cmpR (op_eqD hr.units) (pv 6) (pv 4) (nomark _)))))))))), ?_⟩)
  · first | (obtain ⟨rfl, _⟩ := h; rfl) | (obtain ⟨_, rfl, _⟩ := h; rfl) | (obtain ⟨_, _, rfl, _⟩ := h; rfl) | (obtain ⟨_, _, _, rfl, _⟩ := h; rfl) | (obtain ⟨_, _, _, _, rfl, _⟩ := h; rfl) | (obtain ⟨_, _, _, _, _, rfl, _⟩ := h; rfl) | (obtain ⟨_, _, _, _, _, _, rfl, _⟩ := h; rfl) | (obtain ⟨_, _, _, _, _, _, _, rfl, _⟩ := h; rfl) | (obtain ⟨_, _, _, _, _, _, _, _, rfl, _⟩ := h; rfl) | (obtain ⟨_, _, _, _, _, _, _, _, _, rfl, _⟩ := h; rfl) | (obtain ⟨_, _, _, _, _, _, _, _, _, _, rfl, _⟩ := h; rfl) | (obtain ⟨_, _, _, _, _, _, _, _, _, _, _, rfl, _⟩ := h; rfl)
  · exact pure_law_is_corner h
abbrev s_is_whole : Stmt := topS 8
abbrev n_is_whole : List Str := ["thing"]
theorem sc_is_whole : FnScope n_is_whole ["thing"] (defScope s_is_whole) := ⟨rfl, rfl, rfl, by decide +kernel, rfl, by decide +kernel, by decide +kernel⟩
theorem ok_is_whole {f : Addr} {fd : FuncData} (F : Fun K "is_whole" "is_whole" s_is_whole f fd) (B : Blt mg)  : FnG P w K mg base CX0 1 f fd ["thing"] (sp_is_whole K) := by
  refine okG F sc_is_whole (fun vs H Q E h => ?_) (fun cdv A outer s H vs Q E hr gd h => ⟨(tRet (tAndV (tCB (rIsi K) (tCons (tVar 0) (tCons (tC (.ty "int")) tNil))) (tNotV (tCB (rIsi K) (tCons (tVar 0) (tCons (tC (.ty "bool")) tNil)))))),
    PSs.nox ((pss_one (ps_ret (pe_and (pe_callB call_isi (by rfl) B.b_isinstance (by decide +kernel) (pa_cons (pv 0) (pa_cons (pe_bltn (by rfl) B.b_int (by decide +kernel) rfl) pa_nil))) (pe_one (pe_not (pe_callB call_isi (by rfl) B.b_isinstance (by decide +kernel) (pa_cons (pv 0) (pa_cons (pe_bltn (by rfl) B.b_bool (by decide +kernel) rfl) pa_nil))))))))), ?_⟩)
  · first | (obtain ⟨rfl, _⟩ := h; rfl) | (obtain ⟨_, rfl, _⟩ := h; rfl) | (obtain ⟨_, _, rfl, _⟩ := h; rfl) | (obtain ⟨_, _, _, rfl, _⟩ := h; rfl) | (obtain ⟨_, _, _, _, rfl, _⟩ := h; rfl) | (obtain ⟨_, _, _, _, _, rfl, _⟩ := h; rfl) | (obtain ⟨_, _, _, _, _, _, rfl, _⟩ := h; rfl) | (obtain ⟨_, _, _, _, _, _, _, rfl, _⟩ := h; rfl) | (obtain ⟨_, _, _, _, _, _, _, _, rfl, _⟩ := h; rfl) | (obtain ⟨_, _, _, _, _, _, _, _, _, rfl, _⟩ := h; rfl) | (obtain ⟨_, _, _, _, _, _, _, _, _, _, rfl, _⟩ := h; rfl) | (obtain ⟨_, _, _, _, _, _, _, _, _, _, _, rfl, _⟩ := h; rfl)
  · exact pure_is_whole h
abbrev s_is_within : Stmt := topS 9
abbrev n_is_within : List Str := ["thing", "least", "most"]
theorem sc_is_within : FnScope n_is_within ["thing", "least", "most"] (defScope s_is_within) := ⟨rfl, rfl, rfl, by decide +kernel, rfl, by decide +kernel, by decide +kernel⟩
theorem ok_is_within {f : Addr} {fd : FuncData} (F : Fun K "is_within" "is_within" s_is_within f fd) (B : Blt mg) (c_is_whole : Cal P w K mg base 1 "is_whole" ["thing"] (sp_is_whole K)) : FnG P w K mg base CX0 2 f fd ["thing", "least", "most"] (sp_is_within K) := by
  refine okG F sc_is_within (fun vs H Q E h => ?_) (fun cdv A outer s H vs Q E hr gd h => ⟨(tRet (tAndV (tCall (sp_is_whole K) [] E0 (tCons (tVar 0) tNil)) (tChain rLe rLe (tVar 1) (tVar 0) (tVar 2)))),
    PSs.nox ((pss_one (ps_ret (pe_and (pe_own c_is_whole (hr.mono (by decide)) gd (by rfl) (pa_cons (pv 0) pa_nil)) (pe_one (pe_chain op_le op_le (pv 1) (pv 0) (pv 2))))))), ?_⟩)
  · first | (obtain ⟨rfl, _⟩ := h; rfl) | (obtain ⟨_, rfl, _⟩ := h; rfl) | (obtain ⟨_, _, rfl, _⟩ := h; rfl) | (obtain ⟨_, _, _, rfl, _⟩ := h; rfl) | (obtain ⟨_, _, _, _, rfl, _⟩ := h; rfl) | (obtain ⟨_, _, _, _, _, rfl, _⟩ := h; rfl) | (obtain ⟨_, _, _, _, _, _, rfl, _⟩ := h; rfl) | (obtain ⟨_, _, _, _, _, _, _, rfl, _⟩ := h; rfl) | (obtain ⟨_, _, _, _, _, _, _, _, rfl, _⟩ := h; rfl) | (obtain ⟨_, _, _, _, _, _, _, _, _, rfl, _⟩ := h; rfl) | (obtain ⟨_, _, _, _, _, _, _, _, _, _, rfl, _⟩ := h; rfl) | (obtain ⟨_, _, _, _, _, _, _, _, _, _, _, rfl, _⟩ := h; rfl)
  · exact pure_is_within h
abbrev s_is_tie : Stmt := topS 10
abbrev n_is_tie : List Str := ["many", "thing"]
theorem sc_is_tie : FnScope n_is_tie ["many", "thing"] (defScope s_is_tie) := ⟨rfl, rfl, rfl, by decide +kernel, rfl, by decide +kernel, by decide +kernel⟩
theorem ok_is_tie {f : Addr} {fd : FuncData} (F : Fun K "is_tie" "is_tie" s_is_tie f fd) (B : Blt mg) (c_is_within : Cal P w K mg base 2 "is_within" ["thing", "least", "most"] (sp_is_within K)) : FnG P w K mg base CX0 3 f fd ["many", "thing"] (sp_is_tie K) := by
  refine okG F sc_is_tie (fun vs H Q E h => ?_) (fun cdv A outer s H vs Q E hr gd h => ⟨(tSeq (tIfS (tOr (tNot (tB (tCB (rIsi K) (tCons (tVar 1) (tCons (tC (.ty "tuple")) tNil))))) (tTest (tOp rNe (tCB (rLenSq K) (tCons (tVar 1) tNil)) (tC (.int 2))))) (tRet (tC (.bl false))) tNext)
    (tSeq (tIfS (tOr (tNot (tB (tCall (sp_is_within K) [] E0 (tCons (tOp (rIxT K) (tVar 1) (tC (.int 0))) (tCons (tC (.int 0)) (tCons (tOp rSub (tVar 0) (tC (.int 1))) tNil)))))) (tNot (tB (tCall (sp_is_within K) [] E0 (tCons (tOp (rIxT K) (tVar 1) (tC (.int 1))) (tCons (tC (.int 0)) (tCons (tOp rSub (tVar 0) (tC (.int 1))) tNil))))))) (tRet (tC (.bl false))) tNext)
    (tRet (tOp rLt (tOp (rIxT K) (tVar 1) (tC (.int 0))) (tOp (rIxT K) (tVar 1) (tC (.int 1))))))),
    PSs.nox ((pss_cons (ps_if (PW.pt (pw_or (pt_not (pt_val (pe_callB call_isi (by rfl) B.b_isinstance (by decide +kernel) (pa_cons (pv 1) (pa_cons (pe_bltn (by rfl) B.b_tuple (by decide +kernel) rfl) pa_nil))))) (pw_or1 (pt_cmpR op_ne (pe_callB call_len_seq (by rfl) B.b_len PySem.boot_len (pa_cons (pv 1) pa_nil)) pe_int (nomark _))))) (pss_one (ps_ret pe_bl)) pss_nil)
    (pss_cons (ps_if (PW.pt (pw_or (pt_not (pt_val (pe_own c_is_within (hr.mono (by decide)) gd (by rfl) (pa_cons (pe_ix ix_tup (pv 1) pe_int (fun _ _ => rfl)) (pa_cons pe_int (pa_cons (pe_op op_sub (pv 0) pe_int) pa_nil)))))) (pw_or1 (pt_not (pt_val (pe_own c_is_within (hr.mono (by decide)) gd (by rfl) (pa_cons (pe_ix ix_tup (pv 1) pe_int (fun _ _ => rfl)) (pa_cons pe_int (pa_cons (pe_op op_sub (pv 0) pe_int) pa_nil))))))))) (pss_one (ps_ret pe_bl)) pss_nil)
    (pss_one (ps_ret (pe_cmpR op_lt (pe_ix ix_tup (pv 1) pe_int (fun _ _ => rfl)) (pe_ix ix_tup (pv 1) pe_int (fun _ _ => rfl)) (nomark _))))))), ?_⟩)
  · first | (obtain ⟨rfl, _⟩ := h; rfl) | (obtain ⟨_, rfl, _⟩ := h; rfl) | (obtain ⟨_, _, rfl, _⟩ := h; rfl) | (obtain ⟨_, _, _, rfl, _⟩ := h; rfl) | (obtain ⟨_, _, _, _, rfl, _⟩ := h; rfl) | (obtain ⟨_, _, _, _, _, rfl, _⟩ := h; rfl) | (obtain ⟨_, _, _, _, _, _, rfl, _⟩ := h; rfl) | (obtain ⟨_, _, _, _, _, _, _, rfl, _⟩ := h; rfl) | (obtain ⟨_, _, _, _, _, _, _, _, rfl, _⟩ := h; rfl) | (obtain ⟨_, _, _, _, _, _, _, _, _, rfl, _⟩ := h; rfl) | (obtain ⟨_, _, _, _, _, _, _, _, _, _, rfl, _⟩ := h; rfl) | (obtain ⟨_, _, _, _, _, _, _, _, _, _, _, rfl, _⟩ := h; rfl)
  · exact pure_is_tie h
abbrev s_look_at_web : Stmt := topS 11
abbrev n_look_at_web : List Str := ["thing", "many", "ties", "ahead", "number", "tie"]
theorem sc_look_at_web : FnScope n_look_at_web ["thing"] (defScope s_look_at_web) := ⟨rfl, rfl, rfl, by decide +kernel, rfl, by decide +kernel, by decide +kernel⟩
theorem ok_look_at_web {f : Addr} {fd : FuncData} (F : Fun K "look_at_web" "look_at_web" s_look_at_web f fd) (B : Blt mg) (c_is_within : Cal P w K mg base 2 "is_within" ["thing", "least", "most"] (sp_is_within K)) (c_is_tie : Cal P w K mg base 3 "is_tie" ["many", "thing"] (sp_is_tie K)) : FnG P w K mg base CX0 4 f fd ["thing"] (sp_look_at_web K) := by
  refine okG F sc_look_at_web (fun vs H Q E h => ?_) (fun cdv A outer s H vs Q E hr gd h => ⟨(tSeq (tIfS (tOr (tNot (tB (tCB (rIsi K) (tCons (tVar 0) (tCons (tC (.ty "tuple")) tNil))))) (tTest (tOp rNe (tCB (rLenSq K) (tCons (tVar 0) tNil)) (tC (.int 2))))) tNever tNext)
    (tSeq (tAsg (tVar 0) (gTup K 2 (gCons (gName 1) (gCons (gName 2) gNil))))
    (tSeq (tIfS (tNot (tB (tCall (sp_is_within K) [] E0 (tCons (tVar 1) (tCons (tC (.int 1)) (tCons (tC (.int 40)) tNil)))))) tNever tNext)
    (tSeq (tIfS (tOr (tNot (tB (tCB (rIsi K) (tCons (tVar 2) (tCons (tC (.ty "list")) tNil))))) (tTest (tOp rGt (tCB (rLenSq K) (tCons (tVar 2) tNil)) (tC (.int 120))))) tNever tNext)
    (tSeq (tAsg (tTupG (tCons (tUn rNeg (tC (.int 1))) (tCons (tUn rNeg (tC (.int 1))) tNil))) (gName 3))
    (tFor (iEnum K (tCons (tVar 2) tNil)) (gTup K 2 (gCons (gName 4) (gCons (gName 5) gNil))) (tSeq (tIfS (tOr (tNot (tB (tCall (sp_is_tie K) [] E0 (tCons (tVar 1) (tCons (tVar 5) tNil))))) (tTest (tOp (rLeT K) (tVar 5) (tVar 3)))) tNever tNext)
    (tAsg (tVar 5) (gName 3))))))))),
    PSs.nox ((pss_cons (ps_if (PW.pt (pw_or (pt_not (pt_val (pe_callB call_isi (by rfl) B.b_isinstance (by decide +kernel) (pa_cons (pv 0) (pa_cons (pe_bltn (by rfl) B.b_tuple (by decide +kernel) rfl) pa_nil))))) (pw_or1 (pt_cmpR op_ne (pe_callB call_len_seq (by rfl) B.b_len PySem.boot_len (pa_cons (pv 0) pa_nil)) pe_int (nomark _))))) (pss_one ps_never) pss_nil)
    (pss_cons (ps_asg (pv 0) (pg_tup (by rfl) (pgs_cons (pg_name (i := 1) sc_look_at_web.nd rfl (Or.inl rfl)) (pgs_cons (pg_name (i := 2) sc_look_at_web.nd rfl (Or.inl rfl)) pgs_nil))))
    (pss_cons (ps_if (pt_not (pt_val (pe_own c_is_within (hr.mono (by decide)) gd (by rfl) (pa_cons (pv 1) (pa_cons pe_int (pa_cons (pe_glob (by rfl) B.g_MOST_PLACES.choose_spec ⟨_, rfl⟩) pa_nil)))))) (pss_one ps_never) pss_nil)
    (pss_cons (ps_if (PW.pt (pw_or (pt_not (pt_val (pe_callB call_isi (by rfl) B.b_isinstance (by decide +kernel) (pa_cons (pv 2) (pa_cons (pe_bltn (by rfl) B.b_list (by decide +kernel) rfl) pa_nil))))) (pw_or1 (pt_cmpR op_gt (pe_callB call_len_seq (by rfl) B.b_len PySem.boot_len (pa_cons (pv 2) pa_nil)) (pe_glob (by rfl) B.g_MOST_TIES.choose_spec ⟨_, rfl⟩) (nomark _))))) (pss_one ps_never) pss_nil)
    (pss_cons (ps_set (i := 3) sc_look_at_web.nd rfl (Or.inl rfl) (pe_tupG (pa_cons (pe_un un_neg pe_int) (pa_cons (pe_un un_neg pe_int) pa_nil))))
    (pss_one (ps_for PassesOwn.never rfl (pi_enum (by rfl) B.b_enumerate (pa_cons (pv 2) pa_nil)) (pg_tup (by rfl) (pgs_cons (pg_name (i := 4) sc_look_at_web.nd rfl (Or.inl rfl)) (pgs_cons (pg_name (i := 5) sc_look_at_web.nd rfl (Or.inl rfl)) pgs_nil))) (pss_cons (ps_if (PW.pt (pw_or (pt_not (pt_val (pe_own c_is_tie (hr.mono (by decide)) gd (by rfl) (pa_cons (pv 1) (pa_cons (pv 5) pa_nil))))) (pw_or1 (pt_cmpR (op_leT hr.units0) (pv 5) (pv 3) (nomark _))))) (pss_one ps_never) pss_nil)
    (pss_one (ps_set (i := 3) sc_look_at_web.nd rfl (Or.inl rfl) (pv 5)))))))))))), ?_⟩)
  · first | (obtain ⟨rfl, _⟩ := h; rfl) | (obtain ⟨_, rfl, _⟩ := h; rfl) | (obtain ⟨_, _, rfl, _⟩ := h; rfl) | (obtain ⟨_, _, _, rfl, _⟩ := h; rfl) | (obtain ⟨_, _, _, _, rfl, _⟩ := h; rfl) | (obtain ⟨_, _, _, _, _, rfl, _⟩ := h; rfl) | (obtain ⟨_, _, _, _, _, _, rfl, _⟩ := h; rfl) | (obtain ⟨_, _, _, _, _, _, _, rfl, _⟩ := h; rfl) | (obtain ⟨_, _, _, _, _, _, _, _, rfl, _⟩ := h; rfl) | (obtain ⟨_, _, _, _, _, _, _, _, _, rfl, _⟩ := h; rfl) | (obtain ⟨_, _, _, _, _, _, _, _, _, _, rfl, _⟩ := h; rfl) | (obtain ⟨_, _, _, _, _, _, _, _, _, _, _, rfl, _⟩ := h; rfl)
  · exact pure_look_at_web h
abbrev s_far_by : Stmt := topS 14
abbrev n_far_by : List Str := ["beside", "place", "found", "row", "at", "other"]
theorem sc_far_by : FnScope n_far_by ["beside", "place"] (defScope s_far_by) := ⟨rfl, rfl, rfl, by decide +kernel, rfl, by decide +kernel, by decide +kernel⟩
theorem ok_far_by {f : Addr} {fd : FuncData} (F : Fun K "far_by" "far_by" s_far_by f fd) (B : Blt mg)  : FnG P w K mg base CX0 1 f fd ["beside", "place"] (sp_far_by K) := by
  refine okG F sc_far_by (fun vs H Q E h => ?_) (fun cdv A outer s H vs Q E hr gd h => ⟨(tSeq (tAsg (tOp rRepG (tLstG (tCons (tC .non) tNil)) (tCB (rLenSq K) (tCons (tVar 0) tNil))) (gName 2))
    (tSeq (tAsg (tC (.int 0)) (gSub (tVar 2) (tVar 1) rSetL))
    (tSeq (tAsg (tLstG (tCons (tVar 1) tNil)) (gName 3))
    (tSeq (tAsg (tC (.int 0)) (gName 4))
    (tSeq (tWhile (tTest (tOp rLt (tVar 4) (tCB (rLenSq K) (tCons (tVar 3) tNil)))) (tSeq (tFor (iList K (tOp (rIxL K) (tVar 0) (tOp (rIxL K) (tVar 3) (tVar 4)))) (gName 5) (tIfS (tTest (tOp rIsNn (tOp (rIxL K) (tVar 2) (tVar 5)) (tC .non))) (tSeq (tAsg (tOp rAdd (tOp (rIxL K) (tVar 2) (tOp (rIxL K) (tVar 3) (tVar 4))) (tC (.int 1))) (gSub (tVar 2) (tVar 5) rSetL))
    (tDrop (tBM K "list" rAppend (tVar 3) (tCons (tVar 5) tNil)))) tNext))
    (tAug 4 (tC (.int 1)) (ipI fun i j => i + j))))
    (tRet (tVar 2))))))),
    PSs.nox ((pss_cons (ps_set (i := 2) sc_far_by.nd rfl (Or.inl rfl) (pe_op op_repG (pe_lstG (pa_cons pe_non pa_nil)) (pe_callB call_len_seq (by rfl) B.b_len PySem.boot_len (pa_cons (pv 0) pa_nil))))
    (pss_cons (ps_asg pe_int (pg_sub (pv 2) (pv 1) set_list))
    (pss_cons (ps_set (i := 3) sc_far_by.nd rfl (Or.inl rfl) (pe_lstG (pa_cons (pv 1) pa_nil)))
    (pss_cons (ps_set (i := 4) sc_far_by.nd rfl (Or.inl rfl) pe_int)
    (pss_cons (ps_while PassesOwn.never (pt_cmpR op_lt (pv 4) (pe_callB call_len_seq (by rfl) B.b_len PySem.boot_len (pa_cons (pv 3) pa_nil)) (nomark _)) (pss_cons (ps_for PassesOwn.never rfl (pi_list (pe_ix ix_list (pv 0) (pe_ix ix_list (pv 3) (pv 4) (fun _ _ => rfl)) (fun _ _ => rfl))) (pg_name (i := 5) sc_far_by.nd rfl (Or.inl rfl)) (pss_one (ps_if (pt_cmpR op_isN (pe_ix ix_list (pv 2) (pv 5) (fun _ _ => rfl)) pe_non (nomark _)) (pss_cons (ps_asg (pe_op op_add (pe_ix ix_list (pv 2) (pe_ix ix_list (pv 3) (pv 4) (fun _ _ => rfl)) (fun _ _ => rfl)) pe_int) (pg_sub (pv 2) (pv 5) set_list))
    (pss_one (ps_expr (pe_bm PySem.F.plainAttrs_list PySem.F.slot_list_append PySem.F.type_list_append mt_append (pv 3) (pa_cons (pv 5) pa_nil))))) pss_nil)))
    (pss_one (ps_aug (i := 4) sc_far_by.nd rfl (Or.inl rfl) pe_int ip_add))))
    (pss_one (ps_ret (pv 2))))))))), ?_⟩)
  · first | (obtain ⟨rfl, _⟩ := h; rfl) | (obtain ⟨_, rfl, _⟩ := h; rfl) | (obtain ⟨_, _, rfl, _⟩ := h; rfl) | (obtain ⟨_, _, _, rfl, _⟩ := h; rfl) | (obtain ⟨_, _, _, _, rfl, _⟩ := h; rfl) | (obtain ⟨_, _, _, _, _, rfl, _⟩ := h; rfl) | (obtain ⟨_, _, _, _, _, _, rfl, _⟩ := h; rfl) | (obtain ⟨_, _, _, _, _, _, _, rfl, _⟩ := h; rfl) | (obtain ⟨_, _, _, _, _, _, _, _, rfl, _⟩ := h; rfl) | (obtain ⟨_, _, _, _, _, _, _, _, _, rfl, _⟩ := h; rfl) | (obtain ⟨_, _, _, _, _, _, _, _, _, _, rfl, _⟩ := h; rfl) | (obtain ⟨_, _, _, _, _, _, _, _, _, _, _, rfl, _⟩ := h; rfl)
  · exact pure_far_by h
abbrev s_beside_all : Stmt := topS 12
abbrev n_beside_all : List Str := ["web", "found", "one", "other", "place", "places"]
theorem sc_beside_all : FnScope n_beside_all ["web"] (defScope s_beside_all) := ⟨rfl, rfl, rfl, by decide +kernel, rfl, by decide +kernel, by decide +kernel⟩
theorem ok_beside_all {f : Addr} {fd : FuncData} (F : Fun K "beside_all" "beside_all" s_beside_all f fd) (B : Blt mg)  : FnG P w K mg base CX0 1 f fd ["web"] (sp_beside_all K) := by
  refine okG F sc_beside_all (fun vs H Q E h => ?_) (fun cdv A outer s H vs Q E hr gd h => ⟨(tSeq (tAsg (tLc (iRng1 (tCons (tOp (rIxT K) (tVar 0) (tC (.int 0))) tNil)) (gName 4) tYes (tLstG tNil) [4]) (gName 1))
    (tSeq (tFor (iList K (tOp (rIxT K) (tVar 0) (tC (.int 1)))) (gTup K 2 (gCons (gName 2) (gCons (gName 3) gNil))) (tSeq (tDrop (tBM K "list" rAppend (tOp (rIxL K) (tVar 1) (tVar 2)) (tCons (tVar 3) tNil)))
    (tDrop (tBM K "list" rAppend (tOp (rIxL K) (tVar 1) (tVar 3)) (tCons (tVar 2) tNil)))))
    (tRet (tLc (iList K (tVar 1)) (gName 5) tYes (tCB (rSrtIG K) (tCons (tVar 5) tNil)) [5])))),
    PSs.nox ((pss_cons (ps_setLc (i := 1) (own := [("place", 4)]) (g := (gName 4)) (tt := tYes) (by rfl) sc_beside_all.nd rfl rfl (sw_true rfl rfl rfl (by decide +kernel)) (pi_range1 (by rfl) B.b_range (pa_cons (pe_ix ix_tup (pv 0) pe_int (fun _ _ => rfl)) pa_nil)) (blkOk_by (own := [("place", 4)]) (N := n_beside_all) (sc := defScope s_beside_all) (by decide +kernel)) (fun _ _ _ _ _ => (pg_name (i := 4) sc_beside_all.nd rfl (Or.inl rfl))) (fun _ _ _ _ _ => pts_nil) (fun _ _ _ _ _ => (pe_lstG pa_nil)))
    (pss_cons (ps_for PassesOwn.never rfl (pi_list (pe_ix ix_tup (pv 0) pe_int (fun _ _ => rfl))) (pg_tup (by rfl) (pgs_cons (pg_name (i := 2) sc_beside_all.nd rfl (Or.inl rfl)) (pgs_cons (pg_name (i := 3) sc_beside_all.nd rfl (Or.inl rfl)) pgs_nil))) (pss_cons (ps_expr (pe_bm PySem.F.plainAttrs_list PySem.F.slot_list_append PySem.F.type_list_append mt_append (pe_ix ix_list (pv 1) (pv 2) (fun _ _ => rfl)) (pa_cons (pv 3) pa_nil)))
    (pss_one (ps_expr (pe_bm PySem.F.plainAttrs_list PySem.F.slot_list_append PySem.F.type_list_append mt_append (pe_ix ix_list (pv 1) (pv 3) (fun _ _ => rfl)) (pa_cons (pv 2) pa_nil))))))
    (pss_one (ps_ret (pe_lc (own := [("places", 5)]) (g := (gName 5)) (tt := tYes) (by rfl) sc_beside_all.nd (pi_list (pv 1)) (blkOk_by (own := [("places", 5)]) (N := n_beside_all) (sc := defScope s_beside_all) (by decide +kernel)) (fun _ _ _ _ _ => (pg_name (i := 5) sc_beside_all.nd rfl (Or.inl rfl))) (fun _ _ _ _ _ => pts_nil) (fun _ _ _ _ _ => (pe_callB cr_srtIG (by rfl) B.b_sorted (by decide +kernel) (pa_cons (pv 5) pa_nil))))))))), ?_⟩)
  · first | (obtain ⟨rfl, _⟩ := h; rfl) | (obtain ⟨_, rfl, _⟩ := h; rfl) | (obtain ⟨_, _, rfl, _⟩ := h; rfl) | (obtain ⟨_, _, _, rfl, _⟩ := h; rfl) | (obtain ⟨_, _, _, _, rfl, _⟩ := h; rfl) | (obtain ⟨_, _, _, _, _, rfl, _⟩ := h; rfl) | (obtain ⟨_, _, _, _, _, _, rfl, _⟩ := h; rfl) | (obtain ⟨_, _, _, _, _, _, _, rfl, _⟩ := h; rfl) | (obtain ⟨_, _, _, _, _, _, _, _, rfl, _⟩ := h; rfl) | (obtain ⟨_, _, _, _, _, _, _, _, _, rfl, _⟩ := h; rfl) | (obtain ⟨_, _, _, _, _, _, _, _, _, _, rfl, _⟩ := h; rfl) | (obtain ⟨_, _, _, _, _, _, _, _, _, _, _, rfl, _⟩ := h; rfl)
  · exact pure_beside_all h
abbrev s_together : Stmt := topS 15
abbrev n_together : List Str := ["web"]
theorem sc_together : FnScope n_together ["web"] (defScope s_together) := ⟨rfl, rfl, rfl, by decide +kernel, rfl, by decide +kernel, by decide +kernel⟩
theorem ok_together {f : Addr} {fd : FuncData} (F : Fun K "together" "together" s_together f fd) (B : Blt mg) (c_far_by : Cal P w K mg base 1 "far_by" ["beside", "place"] (sp_far_by K)) (c_beside_all : Cal P w K mg base 1 "beside_all" ["web"] (sp_beside_all K)) : FnG P w K mg base CX0 2 f fd ["web"] (sp_together K) := by
  refine okG F sc_together (fun vs H Q E h => ?_) (fun cdv A outer s H vs Q E hr gd h => ⟨(tRet (tOp (rIn K true) (tC .non) (tCall (sp_far_by K) [] E0 (tCons (tCall (sp_beside_all K) [] E0 (tCons (tVar 0) tNil)) (tCons (tC (.int 0)) tNil))))),
    PSs.nox ((pss_one (ps_ret (pe_cmpR op_notIn_seq pe_non (pe_own c_far_by (hr.mono (by decide)) gd (by rfl) (pa_cons (pe_own c_beside_all (hr.mono (by decide)) gd (by rfl) (pa_cons (pv 0) pa_nil)) (pa_cons pe_int pa_nil))) (by rfl))))), ?_⟩)
  · first | (obtain ⟨rfl, _⟩ := h; rfl) | (obtain ⟨_, rfl, _⟩ := h; rfl) | (obtain ⟨_, _, rfl, _⟩ := h; rfl) | (obtain ⟨_, _, _, rfl, _⟩ := h; rfl) | (obtain ⟨_, _, _, _, rfl, _⟩ := h; rfl) | (obtain ⟨_, _, _, _, _, rfl, _⟩ := h; rfl) | (obtain ⟨_, _, _, _, _, _, rfl, _⟩ := h; rfl) | (obtain ⟨_, _, _, _, _, _, _, rfl, _⟩ := h; rfl) | (obtain ⟨_, _, _, _, _, _, _, _, rfl, _⟩ := h; rfl) | (obtain ⟨_, _, _, _, _, _, _, _, _, rfl, _⟩ := h; rfl) | (obtain ⟨_, _, _, _, _, _, _, _, _, _, rfl, _⟩ := h; rfl) | (obtain ⟨_, _, _, _, _, _, _, _, _, _, _, rfl, _⟩ := h; rfl)
  · exact pure_together h
abbrev s_look_together : Stmt := topS 16
abbrev n_look_together : List Str := ["web"]
theorem sc_look_together : FnScope n_look_together ["web"] (defScope s_look_together) := ⟨rfl, rfl, rfl, by decide +kernel, rfl, by decide +kernel, by decide +kernel⟩
theorem ok_look_together {f : Addr} {fd : FuncData} (F : Fun K "look_together" "look_together" s_look_together f fd) (B : Blt mg) (c_together : Cal P w K mg base 2 "together" ["web"] (sp_together K)) : FnG P w K mg base CX0 3 f fd ["web"] (sp_look_together K) := by
  refine okG F sc_look_together (fun vs H Q E h => ?_) (fun cdv A outer s H vs Q E hr gd h => ⟨(tIfS (tNot (tB (tCall (sp_together K) [] E0 (tCons (tVar 0) tNil)))) tNever tNext),
    PSs.nox ((pss_one (ps_if (pt_not (pt_val (pe_own c_together (hr.mono (by decide)) gd (by rfl) (pa_cons (pv 0) pa_nil)))) (pss_one ps_never) pss_nil))), ?_⟩)
  · first | (obtain ⟨rfl, _⟩ := h; rfl) | (obtain ⟨_, rfl, _⟩ := h; rfl) | (obtain ⟨_, _, rfl, _⟩ := h; rfl) | (obtain ⟨_, _, _, rfl, _⟩ := h; rfl) | (obtain ⟨_, _, _, _, rfl, _⟩ := h; rfl) | (obtain ⟨_, _, _, _, _, rfl, _⟩ := h; rfl) | (obtain ⟨_, _, _, _, _, _, rfl, _⟩ := h; rfl) | (obtain ⟨_, _, _, _, _, _, _, rfl, _⟩ := h; rfl) | (obtain ⟨_, _, _, _, _, _, _, _, rfl, _⟩ := h; rfl) | (obtain ⟨_, _, _, _, _, _, _, _, _, rfl, _⟩ := h; rfl) | (obtain ⟨_, _, _, _, _, _, _, _, _, _, rfl, _⟩ := h; rfl) | (obtain ⟨_, _, _, _, _, _, _, _, _, _, _, rfl, _⟩ := h; rfl)
  · exact pure_look_together h
abbrev s_is_tie_in : Stmt := topS 18
abbrev n_is_tie_in : List Str := ["web", "thing"]
theorem sc_is_tie_in : FnScope n_is_tie_in ["web", "thing"] (defScope s_is_tie_in) := ⟨rfl, rfl, rfl, by decide +kernel, rfl, by decide +kernel, by decide +kernel⟩
theorem ok_is_tie_in {f : Addr} {fd : FuncData} (F : Fun K "is_tie_in" "is_tie_in" s_is_tie_in f fd) (B : Blt mg) (c_is_tie : Cal P w K mg base 3 "is_tie" ["many", "thing"] (sp_is_tie K)) : FnG P w K mg base CX0 4 f fd ["web", "thing"] (sp_is_tie_in K) := by
  refine okG F sc_is_tie_in (fun vs H Q E h => ?_) (fun cdv A outer s H vs Q E hr gd h => ⟨(tRet (tAndV (tCall (sp_is_tie K) [] E0 (tCons (tOp (rIxT K) (tVar 0) (tC (.int 0))) (tCons (tVar 1) tNil))) (tOp (rInD K) (tVar 1) (tOp (rIxT K) (tVar 0) (tC (.int 1)))))),
    PSs.nox ((pss_one (ps_ret (pe_and (pe_own c_is_tie (hr.mono (by decide)) gd (by rfl) (pa_cons (pe_ix ix_tup (pv 0) pe_int (fun _ _ => rfl)) (pa_cons (pv 1) pa_nil))) (pe_one (pe_cmpR (op_inD (hu65 hr)) (pv 1) (pe_ix ix_tup (pv 0) pe_int (fun _ _ => rfl)) (by rfl))))))), ?_⟩)
  · first | (obtain ⟨rfl, _⟩ := h; rfl) | (obtain ⟨_, rfl, _⟩ := h; rfl) | (obtain ⟨_, _, rfl, _⟩ := h; rfl) | (obtain ⟨_, _, _, rfl, _⟩ := h; rfl) | (obtain ⟨_, _, _, _, rfl, _⟩ := h; rfl) | (obtain ⟨_, _, _, _, _, rfl, _⟩ := h; rfl) | (obtain ⟨_, _, _, _, _, _, rfl, _⟩ := h; rfl) | (obtain ⟨_, _, _, _, _, _, _, rfl, _⟩ := h; rfl) | (obtain ⟨_, _, _, _, _, _, _, _, rfl, _⟩ := h; rfl) | (obtain ⟨_, _, _, _, _, _, _, _, _, rfl, _⟩ := h; rfl) | (obtain ⟨_, _, _, _, _, _, _, _, _, _, rfl, _⟩ := h; rfl) | (obtain ⟨_, _, _, _, _, _, _, _, _, _, _, rfl, _⟩ := h; rfl)
  · exact pure_is_tie_in h
abbrev s_look_at_ties : Stmt := topS 19
abbrev n_look_at_ties : List Str := ["web", "tie", "other"]
theorem sc_look_at_ties : FnScope n_look_at_ties ["web", "tie", "other"] (defScope s_look_at_ties) := ⟨rfl, rfl, rfl, by decide +kernel, rfl, by decide +kernel, by decide +kernel⟩
theorem ok_look_at_ties {f : Addr} {fd : FuncData} (F : Fun K "look_at_ties" "look_at_ties" s_look_at_ties f fd) (B : Blt mg) (c_is_tie_in : Cal P w K mg base 4 "is_tie_in" ["web", "thing"] (sp_is_tie_in K)) : FnG P w K mg base CX0 5 f fd ["web", "tie", "other"] (sp_look_at_ties K) := by
  refine okG F sc_look_at_ties (fun vs H Q E h => ?_) (fun cdv A outer s H vs Q E hr gd h => ⟨(tIfS (tOr (tNot (tB (tCall (sp_is_tie_in K) [] E0 (tCons (tVar 0) (tCons (tVar 1) tNil))))) (tNot (tB (tCall (sp_is_tie_in K) [] E0 (tCons (tVar 0) (tCons (tVar 2) tNil)))))) tNever tNext),
    PSs.nox ((pss_one (ps_if (PW.pt (pw_or (pt_not (pt_val (pe_own c_is_tie_in (hr.mono (by decide)) gd (by rfl) (pa_cons (pv 0) (pa_cons (pv 1) pa_nil))))) (pw_or1 (pt_not (pt_val (pe_own c_is_tie_in (hr.mono (by decide)) gd (by rfl) (pa_cons (pv 0) (pa_cons (pv 2) pa_nil)))))))) (pss_one ps_never) pss_nil))), ?_⟩)
  · first | (obtain ⟨rfl, _⟩ := h; rfl) | (obtain ⟨_, rfl, _⟩ := h; rfl) | (obtain ⟨_, _, rfl, _⟩ := h; rfl) | (obtain ⟨_, _, _, rfl, _⟩ := h; rfl) | (obtain ⟨_, _, _, _, rfl, _⟩ := h; rfl) | (obtain ⟨_, _, _, _, _, rfl, _⟩ := h; rfl) | (obtain ⟨_, _, _, _, _, _, rfl, _⟩ := h; rfl) | (obtain ⟨_, _, _, _, _, _, _, rfl, _⟩ := h; rfl) | (obtain ⟨_, _, _, _, _, _, _, _, rfl, _⟩ := h; rfl) | (obtain ⟨_, _, _, _, _, _, _, _, _, rfl, _⟩ := h; rfl) | (obtain ⟨_, _, _, _, _, _, _, _, _, _, rfl, _⟩ := h; rfl) | (obtain ⟨_, _, _, _, _, _, _, _, _, _, _, rfl, _⟩ := h; rfl)
  · exact pure_look_at_ties h
abbrev s_corner_in : Stmt := topS 20
abbrev n_corner_in : List Str := ["beside", "tie", "other", "shared", "ends", "place"]
theorem sc_corner_in : FnScope n_corner_in ["beside", "tie", "other"] (defScope s_corner_in) := ⟨rfl, rfl, rfl, by decide +kernel, rfl, by decide +kernel, by decide +kernel⟩
theorem ok_corner_in {f : Addr} {fd : FuncData} (F : Fun K "corner_in" "corner_in" s_corner_in f fd) (B : Blt mg)  : FnG P w K mg base CX0 1 f fd ["beside", "tie", "other"] (sp_corner_in K) := by
  refine okG F sc_corner_in (fun vs H Q E h => ?_) (fun cdv A outer s H vs Q E hr gd h => ⟨(tSeq (tAsg (tLc (iTup K (tVar 1)) (gName 5) (tTest (tOp (rIn K false) (tVar 5) (tVar 2))) (tVar 5) [5]) (gName 3))
    (tSeq (tIfS (tTest (tOp rNe (tCB (rLenSq K) (tCons (tVar 3) tNil)) (tC (.int 1)))) (tRet (tC (.bl false))) tNext)
    (tSeq (tAsg (tLc (iTup K (tOp (rCatTG K) (tVar 1) (tVar 2))) (gName 5) (tTest (tOp (rIn K true) (tVar 5) (tVar 3))) (tVar 5) [5]) (gName 4))
    (tRet (tOp (rEqD K) (tLc (iList K (tOp (rIxL K) (tVar 0) (tOp (rIxL K) (tVar 4) (tC (.int 0))))) (gName 5) (tTest (tOp (rIn K false) (tVar 5) (tOp (rIxL K) (tVar 0) (tOp (rIxL K) (tVar 4) (tC (.int 1)))))) (tVar 5) [5]) (tVar 3)))))),
    PSs.nox ((pss_cons (ps_set (i := 3) sc_corner_in.nd rfl (Or.inr rfl) (pe_lc (own := [("place", 5)]) (g := (gName 5)) (tt := (tTest (tOp (rIn K false) (tVar 5) (tVar 2)))) (by rfl) sc_corner_in.nd (pi_tup (pv 1)) (blkOk_by (own := [("place", 5)]) (N := n_corner_in) (sc := defScope s_corner_in) (by decide +kernel)) (fun _ _ _ _ _ => (pg_name (i := 5) sc_corner_in.nd rfl (Or.inl rfl))) (fun _ _ _ _ _ => (pts_one (pt_cmpR op_in_seq (pv 5) (pv 2) (by rfl)))) (fun _ _ _ _ _ => (pv 5))))
    (pss_cons (ps_if (pt_cmpR op_ne (pe_callB call_len_seq (by rfl) B.b_len PySem.boot_len (pa_cons (pv 3) pa_nil)) pe_int (nomark _)) (pss_one (ps_ret pe_bl)) pss_nil)
    (pss_cons (ps_set (i := 4) sc_corner_in.nd rfl (Or.inr rfl) (pe_lc (own := [("place", 5)]) (g := (gName 5)) (tt := (tTest (tOp (rIn K true) (tVar 5) (tVar 3)))) (by rfl) sc_corner_in.nd (pi_tup (pe_op op_catTG (pv 1) (pv 2))) (blkOk_by (own := [("place", 5)]) (N := n_corner_in) (sc := defScope s_corner_in) (by decide +kernel)) (fun _ _ _ _ _ => (pg_name (i := 5) sc_corner_in.nd rfl (Or.inl rfl))) (fun _ _ _ _ _ => (pts_one (pt_cmpR op_notIn_seq (pv 5) (pv 3) (by rfl)))) (fun _ _ _ _ _ => (pv 5))))
    (pss_one (ps_ret (pe_cmpR (op_eqD hr.units) (pe_lc (own := [("place", 5)]) (g := (gName 5)) (tt := (tTest (tOp (rIn K false) (tVar 5) (tOp (rIxL K) (tVar 0) (tOp (rIxL K) (tVar 4) (tC (.int 1))))))) (by rfl) sc_corner_in.nd (pi_list (pe_ix ix_list (pv 0) (pe_ix ix_list (pv 4) pe_int (fun _ _ => rfl)) (fun _ _ => rfl))) (blkOk_by (own := [("place", 5)]) (N := n_corner_in) (sc := defScope s_corner_in) (by decide +kernel)) (fun _ _ _ _ _ => (pg_name (i := 5) sc_corner_in.nd rfl (Or.inl rfl))) (fun _ _ _ _ _ => (pts_one (pt_cmpR op_in_seq (pv 5) (pe_ix ix_list (pv 0) (pe_ix ix_list (pv 4) pe_int (fun _ _ => rfl)) (fun _ _ => rfl)) (by rfl)))) (fun _ _ _ _ _ => (pv 5))) (pv 3) (nomark _)))))))), ?_⟩)
  · first | (obtain ⟨rfl, _⟩ := h; rfl) | (obtain ⟨_, rfl, _⟩ := h; rfl) | (obtain ⟨_, _, rfl, _⟩ := h; rfl) | (obtain ⟨_, _, _, rfl, _⟩ := h; rfl) | (obtain ⟨_, _, _, _, rfl, _⟩ := h; rfl) | (obtain ⟨_, _, _, _, _, rfl, _⟩ := h; rfl) | (obtain ⟨_, _, _, _, _, _, rfl, _⟩ := h; rfl) | (obtain ⟨_, _, _, _, _, _, _, rfl, _⟩ := h; rfl) | (obtain ⟨_, _, _, _, _, _, _, _, rfl, _⟩ := h; rfl) | (obtain ⟨_, _, _, _, _, _, _, _, _, rfl, _⟩ := h; rfl) | (obtain ⟨_, _, _, _, _, _, _, _, _, _, rfl, _⟩ := h; rfl) | (obtain ⟨_, _, _, _, _, _, _, _, _, _, _, rfl, _⟩ := h; rfl)
  · exact pure_corner_in h
abbrev s_is_corner : Stmt := topS 21
abbrev n_is_corner : List Str := ["web", "tie", "other"]
theorem sc_is_corner : FnScope n_is_corner ["web", "tie", "other"] (defScope s_is_corner) := ⟨rfl, rfl, rfl, by decide +kernel, rfl, by decide +kernel, by decide +kernel⟩
theorem ok_is_corner {f : Addr} {fd : FuncData} (F : Fun K "is_corner" "is_corner" s_is_corner f fd) (B : Blt mg) (c_look_at_web : Cal P w K mg base 4 "look_at_web" ["thing"] (sp_look_at_web K)) (c_look_together : Cal P w K mg base 3 "look_together" ["web"] (sp_look_together K)) (c_look_at_ties : Cal P w K mg base 5 "look_at_ties" ["web", "tie", "other"] (sp_look_at_ties K)) (c_corner_in : Cal P w K mg base 1 "corner_in" ["beside", "tie", "other"] (sp_corner_in K)) (c_beside_all : Cal P w K mg base 1 "beside_all" ["web"] (sp_beside_all K)) : FnG P w K mg base CX0 6 f fd ["web", "tie", "other"] (sp_is_corner K) := by
  refine okG F sc_is_corner (fun vs H Q E h => ?_) (fun cdv A outer s H vs Q E hr gd h => ⟨(tSeq (tDrop (tCall (sp_look_at_web K) [] E0 (tCons (tVar 0) tNil)))
    (tSeq (tDrop (tCall (sp_look_together K) [] E0 (tCons (tVar 0) tNil)))
    (tSeq (tDrop (tCall (sp_look_at_ties K) [] E0 (tCons (tVar 0) (tCons (tVar 1) (tCons (tVar 2) tNil)))))
    (tRet (tCall (sp_corner_in K) [] E0 (tCons (tCall (sp_beside_all K) [] E0 (tCons (tVar 0) tNil)) (tCons (tVar 1) (tCons (tVar 2) tNil)))))))),
    PSs.nox ((pss_cons (ps_expr (pe_own c_look_at_web (hr.mono (by decide)) gd (by rfl) (pa_cons (pv 0) pa_nil)))
    (pss_cons (ps_expr (pe_own c_look_together (hr.mono (by decide)) gd (by rfl) (pa_cons (pv 0) pa_nil)))
    (pss_cons (ps_expr (pe_own c_look_at_ties (hr.mono (by decide)) gd (by rfl) (pa_cons (pv 0) (pa_cons (pv 1) (pa_cons (pv 2) pa_nil)))))
    (pss_one (ps_ret (pe_own c_corner_in (hr.mono (by decide)) gd (by rfl) (pa_cons (pe_own c_beside_all (hr.mono (by decide)) gd (by rfl) (pa_cons (pv 0) pa_nil)) (pa_cons (pv 1) (pa_cons (pv 2) pa_nil)))))))))), ?_⟩)
  · first | (obtain ⟨rfl, _⟩ := h; rfl) | (obtain ⟨_, rfl, _⟩ := h; rfl) | (obtain ⟨_, _, rfl, _⟩ := h; rfl) | (obtain ⟨_, _, _, rfl, _⟩ := h; rfl) | (obtain ⟨_, _, _, _, rfl, _⟩ := h; rfl) | (obtain ⟨_, _, _, _, _, rfl, _⟩ := h; rfl) | (obtain ⟨_, _, _, _, _, _, rfl, _⟩ := h; rfl) | (obtain ⟨_, _, _, _, _, _, _, rfl, _⟩ := h; rfl) | (obtain ⟨_, _, _, _, _, _, _, _, rfl, _⟩ := h; rfl) | (obtain ⟨_, _, _, _, _, _, _, _, _, rfl, _⟩ := h; rfl) | (obtain ⟨_, _, _, _, _, _, _, _, _, _, rfl, _⟩ := h; rfl) | (obtain ⟨_, _, _, _, _, _, _, _, _, _, _, rfl, _⟩ := h; rfl)
  · exact pure_is_corner h
abbrev s_law : Stmt := topS 30
abbrev n_law : List Str := ["_law_script", "_law_k", "_law_web_here", "_law_handed", "_law_beside_here", "_law_digits", "_law_tie", "_law_other", "_law_due", "_law_found", "_law_square"]
theorem sc_law : FnScope n_law ["_law_script"] (defScope s_law) := ⟨rfl, rfl, rfl, by decide +kernel, rfl, by decide +kernel, by decide +kernel⟩
theorem ok_law {f : Addr} {fd : FuncData} (F : Fun K "law" "law" s_law f fd) (B : Blt mg) (c_law_one_web : Cal P w K mg base 3 "_law_one_web" ["_law_script", "_law_k", "_law_salt"] (sp_law_one_web K)) (c_law_beside : Cal P w K mg base 1 "_law_beside" ["_law_web_here"] (sp_law_beside K)) (c_law_numbers : Cal P w K mg base 1 "_law_numbers" ["_law_cell", "_law_salt", "_law_sizes"] (sp_law_numbers K)) (c_law_cell_at : Cal P w K mg base 1 "_law_cell_at" ["_law_script", "_law_k"] (sp_law_cell_at K)) (c_law_pairs : Cal P w K mg base 1 "_law_pairs" ["_law_digits", "_law_ties"] (sp_law_pairs K)) (c_law_is_corner : Cal P w K mg base 1 "_law_is_corner" ["_law_beside_here", "_law_tie", "_law_other"] (sp_law_is_corner K)) (c_is_corner : Cal P w K mg base 6 "is_corner" ["web", "tie", "other"] (sp_is_corner K)) : FnG P w K mg base CX0 7 f fd ["_law_script"] (sp_law K) := by
  refine okG F sc_law (fun vs H Q E h => ?_) (fun cdv A outer s H vs Q E hr gd h => ⟨(tSeq (tFor (iRng1 (tCons (tCB rMax2 (tCons (tC (.int 1)) (tCons (tOp rDiv (tOp rAdd (tCB rMin2 (tCons (tCB (rLenSq K) (tCons (tVar 0) tNil)) (tCons (tC (.int 32)) tNil))) (tC (.int 1))) (tC (.int 2))) tNil))) tNil)) (gName 1) (tSeq (tAsg (tCall (sp_law_one_web K) [] E0 (tCons (tVar 0) (tCons (tVar 1) (tCons (tOp rAdd (tC (.int 2500)) (tOp rMul (tC (.int 2)) (tVar 1))) tNil)))) (gName 2))
    (tSeq (tAsg (tTupG (tCons (tOp (rIxT K) (tVar 2) (tC (.int 0))) (tCons (tCB (rListOfG K) (tCons (tOp (rIxT K) (tVar 2) (tC (.int 1))) tNil)) tNil))) (gName 3))
    (tSeq (tAsg (tCall (sp_law_beside K) [] E0 (tCons (tVar 2) tNil)) (gName 4))
    (tSeq (tAsg (tSl (rSlLG K) (tCall (sp_law_numbers K) [] E0 (tCons (tCall (sp_law_cell_at K) [] E0 (tCons (tVar 0) (tCons (tOp rAdd (tOp rMul (tC (.int 2)) (tVar 1)) (tC (.int 1))) tNil))) (tCons (tOp rAdd (tC (.int 2600)) (tVar 1)) (tCons (tOp rCatG (tLstG (tCons (tC (.int 8)) tNil)) (tOp rRepG (tLstG (tCons (tC (.int 120)) tNil)) (tC (.int 9)))) tNil)))) (tPart (tC (.int 1))) tNoPart) (gName 5))
    (tSeq (tFor (iList K (tCall (sp_law_pairs K) [] E0 (tCons (tVar 5) (tCons (tOp (rIxT K) (tVar 2) (tC (.int 1))) tNil)))) (gTup K 2 (gCons (gName 6) (gCons (gName 7) gNil))) (tSeq (tAsg (tCall (sp_law_is_corner K) [] E0 (tCons (tVar 4) (tCons (tVar 6) (tCons (tVar 7) tNil)))) (gName 8))
    (tFor (iList K (tLstG (tCons (tCall (sp_is_corner K) [] E0 (tCons (tVar 3) (tCons (tVar 6) (tCons (tVar 7) tNil)))) (tCons (tCall (sp_is_corner K) [] E0 (tCons (tVar 3) (tCons (tVar 7) (tCons (tVar 6) tNil)))) tNil)))) (gName 9) (tIfS (tOr (tNot (tB (tCB (rIsi K) (tCons (tVar 9) (tCons (tC (.ty "bool")) tNil))))) (tTest (tOp rNe (tVar 9) (tVar 8)))) (tRet (tC (.bl false))) tNext))))
    (tIfS (tTest (tOp (rNeD K) (tVar 3) (tVar 2))) (tRet (tC (.bl false))) tNext)))))))
    (tSeq (tAsg (tTupG (tCons (tC (.int 4)) (tCons (tLstG (tCons (tTupG (tCons (tC (.int 0)) (tCons (tC (.int 1)) tNil))) (tCons (tTupG (tCons (tC (.int 0)) (tCons (tC (.int 2)) tNil))) (tCons (tTupG (tCons (tC (.int 1)) (tCons (tC (.int 3)) tNil))) (tCons (tTupG (tCons (tC (.int 2)) (tCons (tC (.int 3)) tNil))) tNil))))) tNil))) (gName 10))
    (tRet (tAndV (tNotV (tCall (sp_is_corner K) [] E0 (tCons (tVar 10) (tCons (tTupG (tCons (tC (.int 0)) (tCons (tC (.int 1)) tNil))) (tCons (tTupG (tCons (tC (.int 0)) (tCons (tC (.int 2)) tNil))) tNil))))) (tCall (sp_is_corner K) [] E0 (tCons (tTupG (tCons (tC (.int 3)) (tCons (tLstG (tCons (tTupG (tCons (tC (.int 0)) (tCons (tC (.int 1)) tNil))) (tCons (tTupG (tCons (tC (.int 1)) (tCons (tC (.int 2)) tNil))) tNil))) tNil))) (tCons (tTupG (tCons (tC (.int 0)) (tCons (tC (.int 1)) tNil))) (tCons (tTupG (tCons (tC (.int 1)) (tCons (tC (.int 2)) tNil))) tNil)))))))),
    PSs.nox ((pss_cons (ps_for PassesOwn.never rfl (pi_range1 (by rfl) B.b_range (pa_cons (pe_callB (call_max2 rfl) (by rfl) B.b_max (by decide +kernel) (pa_cons pe_int (pa_cons (pe_op op_fdiv (pe_op op_add (pe_callB (call_min2 rfl) (by rfl) B.b_min (by decide +kernel) (pa_cons (pe_callB call_len_seq (by rfl) B.b_len PySem.boot_len (pa_cons (pv 0) pa_nil)) (pa_cons pe_int pa_nil))) pe_int) pe_int) pa_nil))) pa_nil)) (pg_name (i := 1) sc_law.nd rfl (Or.inl rfl)) (pss_cons (ps_set (i := 2) sc_law.nd rfl (Or.inl rfl) (pe_own c_law_one_web (hr.mono (by decide)) gd (by rfl) (pa_cons (pv 0) (pa_cons (pv 1) (pa_cons (pe_op op_add pe_int (pe_op op_mul pe_int (pv 1))) pa_nil)))))
    (pss_cons (ps_set (i := 3) sc_law.nd rfl (Or.inl rfl) (pe_tupG (pa_cons (pe_ix ix_tup (pv 2) pe_int (fun _ _ => rfl)) (pa_cons (pe_callTy call_list_ofG (by rfl) B.b_list (by decide +kernel) (pa_cons (pe_ix ix_tup (pv 2) pe_int (fun _ _ => rfl)) pa_nil)) pa_nil))))
    (pss_cons (ps_set (i := 4) sc_law.nd rfl (Or.inl rfl) (pe_own c_law_beside (hr.mono (by decide)) gd (by rfl) (pa_cons (pv 2) pa_nil)))
    (pss_cons (ps_set (i := 5) sc_law.nd rfl (Or.inl rfl) (pe_slice sl_listG (pe_own c_law_numbers (hr.mono (by decide)) gd (by rfl) (pa_cons (pe_own c_law_cell_at (hr.mono (by decide)) gd (by rfl) (pa_cons (pv 0) (pa_cons (pe_op op_add (pe_op op_mul pe_int (pv 1)) pe_int) pa_nil))) (pa_cons (pe_op op_add pe_int (pv 1)) (pa_cons (pe_op op_catG (pe_lstG (pa_cons pe_int pa_nil)) (pe_op op_repG (pe_lstG (pa_cons pe_int pa_nil)) pe_int)) pa_nil)))) (po_some pe_int) po_none))
    (pss_cons (ps_for PassesOwn.never rfl (pi_list (pe_own c_law_pairs (hr.mono (by decide)) gd (by rfl) (pa_cons (pv 5) (pa_cons (pe_ix ix_tup (pv 2) pe_int (fun _ _ => rfl)) pa_nil)))) (pg_tup (by rfl) (pgs_cons (pg_name (i := 6) sc_law.nd rfl (Or.inl rfl)) (pgs_cons (pg_name (i := 7) sc_law.nd rfl (Or.inl rfl)) pgs_nil))) (pss_cons (ps_set (i := 8) sc_law.nd rfl (Or.inl rfl) (pe_own c_law_is_corner (hr.mono (by decide)) gd (by rfl) (pa_cons (pv 4) (pa_cons (pv 6) (pa_cons (pv 7) pa_nil)))))
    (pss_one (ps_for PassesOwn.never rfl (pi_list (pe_lstG (pa_cons (pe_own c_is_corner (hr.mono (by decide)) gd (by rfl) (pa_cons (pv 3) (pa_cons (pv 6) (pa_cons (pv 7) pa_nil)))) (pa_cons (pe_own c_is_corner (hr.mono (by decide)) gd (by rfl) (pa_cons (pv 3) (pa_cons (pv 7) (pa_cons (pv 6) pa_nil)))) pa_nil)))) (pg_name (i := 9) sc_law.nd rfl (Or.inl rfl)) (pss_one (ps_if (PW.pt (pw_or (pt_not (pt_val (pe_callB call_isi (by rfl) B.b_isinstance (by decide +kernel) (pa_cons (pv 9) (pa_cons (pe_bltn (by rfl) B.b_bool (by decide +kernel) rfl) pa_nil))))) (pw_or1 (pt_cmpR op_ne (pv 9) (pv 8) (nomark _))))) (pss_one (ps_ret pe_bl)) pss_nil))))))
    (pss_one (ps_if (pt_cmpR (op_neD hr.units) (pv 3) (pv 2) (nomark _)) (pss_one (ps_ret pe_bl)) pss_nil))))))))
    (pss_cons (ps_set (i := 10) sc_law.nd rfl (Or.inl rfl) (pe_tupG (pa_cons pe_int (pa_cons (pe_lstG (pa_cons (pe_tupG (pa_cons pe_int (pa_cons pe_int pa_nil))) (pa_cons (pe_tupG (pa_cons pe_int (pa_cons pe_int pa_nil))) (pa_cons (pe_tupG (pa_cons pe_int (pa_cons pe_int pa_nil))) (pa_cons (pe_tupG (pa_cons pe_int (pa_cons pe_int pa_nil))) pa_nil))))) pa_nil))))
    (pss_one (ps_ret (pe_and (pe_not (pe_own c_is_corner (hr.mono (by decide)) gd (by rfl) (pa_cons (pv 10) (pa_cons (pe_tupG (pa_cons pe_int (pa_cons pe_int pa_nil))) (pa_cons (pe_tupG (pa_cons pe_int (pa_cons pe_int pa_nil))) pa_nil))))) (pe_one (pe_own c_is_corner (hr.mono (by decide)) gd (by rfl) (pa_cons (pe_tupG (pa_cons pe_int (pa_cons (pe_lstG (pa_cons (pe_tupG (pa_cons pe_int (pa_cons pe_int pa_nil))) (pa_cons (pe_tupG (pa_cons pe_int (pa_cons pe_int pa_nil))) pa_nil))) pa_nil))) (pa_cons (pe_tupG (pa_cons pe_int (pa_cons pe_int pa_nil))) (pa_cons (pe_tupG (pa_cons pe_int (pa_cons pe_int pa_nil))) pa_nil))))))))))), ?_⟩)
  · first | (obtain ⟨rfl, _⟩ := h; rfl) | (obtain ⟨_, rfl, _⟩ := h; rfl) | (obtain ⟨_, _, rfl, _⟩ := h; rfl) | (obtain ⟨_, _, _, rfl, _⟩ := h; rfl) | (obtain ⟨_, _, _, _, rfl, _⟩ := h; rfl) | (obtain ⟨_, _, _, _, _, rfl, _⟩ := h; rfl) | (obtain ⟨_, _, _, _, _, _, rfl, _⟩ := h; rfl) | (obtain ⟨_, _, _, _, _, _, _, rfl, _⟩ := h; rfl) | (obtain ⟨_, _, _, _, _, _, _, _, rfl, _⟩ := h; rfl) | (obtain ⟨_, _, _, _, _, _, _, _, _, rfl, _⟩ := h; rfl) | (obtain ⟨_, _, _, _, _, _, _, _, _, _, rfl, _⟩ := h; rfl) | (obtain ⟨_, _, _, _, _, _, _, _, _, _, _, rfl, _⟩ := h; rfl)
  · exact pure_law h
end
theorem all_mk {l : PySem.W.OpenLaw} {w : World} {K : PySem.W.Frag} {h : Heap} {mg : Str → Option Value} {fa f0 f1 f2 f3 f4 f5 f6 f7 f8 f9 f10 f11 f12 f13 f14 f15 f16 f17 f18 f19 : Addr} (X : K.In h) (G : h.Ns mainGlobals mg) (hfa : mg "law" = some (.ref fa))
    {od0 an0 : Option Addr} {sl0 : Array (Option Value)} {oc0 kV0 dc0 pm0 cd0 ct0 : Value} {od1 an1 : Option Addr} {sl1 : Array (Option Value)} {oc1 kV1 dc1 pm1 cd1 ct1 : Value} {od2 an2 : Option Addr} {sl2 : Array (Option Value)} {oc2 kV2 dc2 pm2 cd2 ct2 : Value} {od3 an3 : Option Addr} {sl3 : Array (Option Value)} {oc3 kV3 dc3 pm3 cd3 ct3 : Value} {od4 an4 : Option Addr} {sl4 : Array (Option Value)} {oc4 kV4 dc4 pm4 cd4 ct4 : Value} {od5 an5 : Option Addr} {sl5 : Array (Option Value)} {oc5 kV5 dc5 pm5 cd5 ct5 : Value} {od6 an6 : Option Addr} {sl6 : Array (Option Value)} {oc6 kV6 dc6 pm6 cd6 ct6 : Value} {od7 an7 : Option Addr} {sl7 : Array (Option Value)} {oc7 kV7 dc7 pm7 cd7 ct7 : Value} {od8 an8 : Option Addr} {sl8 : Array (Option Value)} {oc8 kV8 dc8 pm8 cd8 ct8 : Value} {od9 an9 : Option Addr} {sl9 : Array (Option Value)} {oc9 kV9 dc9 pm9 cd9 ct9 : Value} {od10 an10 : Option Addr} {sl10 : Array (Option Value)} {oc10 kV10 dc10 pm10 cd10 ct10 : Value} {od11 an11 : Option Addr} {sl11 : Array (Option Value)} {oc11 kV11 dc11 pm11 cd11 ct11 : Value} {od12 an12 : Option Addr} {sl12 : Array (Option Value)} {oc12 kV12 dc12 pm12 cd12 ct12 : Value} {od13 an13 : Option Addr} {sl13 : Array (Option Value)} {oc13 kV13 dc13 pm13 cd13 ct13 : Value} {od14 an14 : Option Addr} {sl14 : Array (Option Value)} {oc14 kV14 dc14 pm14 cd14 ct14 : Value} {od15 an15 : Option Addr} {sl15 : Array (Option Value)} {oc15 kV15 dc15 pm15 cd15 ct15 : Value} {od16 an16 : Option Addr} {sl16 : Array (Option Value)} {oc16 kV16 dc16 pm16 cd16 ct16 : Value} {od17 an17 : Option Addr} {sl17 : Array (Option Value)} {oc17 kV17 dc17 pm17 cd17 ct17 : Value} {od18 an18 : Option Addr} {sl18 : Array (Option Value)} {oc18 kV18 dc18 pm18 cd18 ct18 : Value} {od19 an19 : Option Addr} {sl19 : Array (Option Value)} {oc19 kV19 dc19 pm19 cd19 ct19 : Value} {tg_MOST_PLACES : Tok} {tg_MOST_TIES : Tok}
    (a0 : PySem.W.nsIn K mainGlobals "_law_numbers" = some (some (.ref f0))) (l0 : K.lookup f0 = some ⟨oc0, od0, .func (PySem.W.fnOf "_law_numbers" "_law_numbers" (defArgs s_law_numbers) (defBody s_law_numbers) (defScope s_law_numbers) .none kV0 dc0 pm0 an0 cd0 ct0), sl0⟩) (c0 : PySem.W.codeIn K cd0 "_law_numbers" = true) (k0 : PySem.W.keepIn K (.ref f0) = true)
    (a1 : PySem.W.nsIn K mainGlobals "_law_cell_at" = some (some (.ref f1))) (l1 : K.lookup f1 = some ⟨oc1, od1, .func (PySem.W.fnOf "_law_cell_at" "_law_cell_at" (defArgs s_law_cell_at) (defBody s_law_cell_at) (defScope s_law_cell_at) .none kV1 dc1 pm1 an1 cd1 ct1), sl1⟩) (c1 : PySem.W.codeIn K cd1 "_law_cell_at" = true) (k1 : PySem.W.keepIn K (.ref f1) = true)
    (a2 : PySem.W.nsIn K mainGlobals "_law_web" = some (some (.ref f2))) (l2 : K.lookup f2 = some ⟨oc2, od2, .func (PySem.W.fnOf "_law_web" "_law_web" (defArgs s_law_web) (defBody s_law_web) (defScope s_law_web) .none kV2 dc2 pm2 an2 cd2 ct2), sl2⟩) (c2 : PySem.W.codeIn K cd2 "_law_web" = true) (k2 : PySem.W.keepIn K (.ref f2) = true)
    (a3 : PySem.W.nsIn K mainGlobals "_law_one_web" = some (some (.ref f3))) (l3 : K.lookup f3 = some ⟨oc3, od3, .func (PySem.W.fnOf "_law_one_web" "_law_one_web" (defArgs s_law_one_web) (defBody s_law_one_web) (defScope s_law_one_web) .none kV3 dc3 pm3 an3 cd3 ct3), sl3⟩) (c3 : PySem.W.codeIn K cd3 "_law_one_web" = true) (k3 : PySem.W.keepIn K (.ref f3) = true)
    (a4 : PySem.W.nsIn K mainGlobals "_law_beside" = some (some (.ref f4))) (l4 : K.lookup f4 = some ⟨oc4, od4, .func (PySem.W.fnOf "_law_beside" "_law_beside" (defArgs s_law_beside) (defBody s_law_beside) (defScope s_law_beside) .none kV4 dc4 pm4 an4 cd4 ct4), sl4⟩) (c4 : PySem.W.codeIn K cd4 "_law_beside" = true) (k4 : PySem.W.keepIn K (.ref f4) = true)
    (a5 : PySem.W.nsIn K mainGlobals "_law_pairs" = some (some (.ref f5))) (l5 : K.lookup f5 = some ⟨oc5, od5, .func (PySem.W.fnOf "_law_pairs" "_law_pairs" (defArgs s_law_pairs) (defBody s_law_pairs) (defScope s_law_pairs) .none kV5 dc5 pm5 an5 cd5 ct5), sl5⟩) (c5 : PySem.W.codeIn K cd5 "_law_pairs" = true) (k5 : PySem.W.keepIn K (.ref f5) = true)
    (a6 : PySem.W.nsIn K mainGlobals "_law_is_corner" = some (some (.ref f6))) (l6 : K.lookup f6 = some ⟨oc6, od6, .func (PySem.W.fnOf "_law_is_corner" "_law_is_corner" (defArgs s_law_is_corner) (defBody s_law_is_corner) (defScope s_law_is_corner) .none kV6 dc6 pm6 an6 cd6 ct6), sl6⟩) (c6 : PySem.W.codeIn K cd6 "_law_is_corner" = true) (k6 : PySem.W.keepIn K (.ref f6) = true)
    (a7 : PySem.W.nsIn K mainGlobals "is_whole" = some (some (.ref f7))) (l7 : K.lookup f7 = some ⟨oc7, od7, .func (PySem.W.fnOf "is_whole" "is_whole" (defArgs s_is_whole) (defBody s_is_whole) (defScope s_is_whole) .none kV7 dc7 pm7 an7 cd7 ct7), sl7⟩) (c7 : PySem.W.codeIn K cd7 "is_whole" = true) (k7 : PySem.W.keepIn K (.ref f7) = true)
    (a8 : PySem.W.nsIn K mainGlobals "is_within" = some (some (.ref f8))) (l8 : K.lookup f8 = some ⟨oc8, od8, .func (PySem.W.fnOf "is_within" "is_within" (defArgs s_is_within) (defBody s_is_within) (defScope s_is_within) .none kV8 dc8 pm8 an8 cd8 ct8), sl8⟩) (c8 : PySem.W.codeIn K cd8 "is_within" = true) (k8 : PySem.W.keepIn K (.ref f8) = true)
    (a9 : PySem.W.nsIn K mainGlobals "is_tie" = some (some (.ref f9))) (l9 : K.lookup f9 = some ⟨oc9, od9, .func (PySem.W.fnOf "is_tie" "is_tie" (defArgs s_is_tie) (defBody s_is_tie) (defScope s_is_tie) .none kV9 dc9 pm9 an9 cd9 ct9), sl9⟩) (c9 : PySem.W.codeIn K cd9 "is_tie" = true) (k9 : PySem.W.keepIn K (.ref f9) = true)
    (a10 : PySem.W.nsIn K mainGlobals "look_at_web" = some (some (.ref f10))) (l10 : K.lookup f10 = some ⟨oc10, od10, .func (PySem.W.fnOf "look_at_web" "look_at_web" (defArgs s_look_at_web) (defBody s_look_at_web) (defScope s_look_at_web) .none kV10 dc10 pm10 an10 cd10 ct10), sl10⟩) (c10 : PySem.W.codeIn K cd10 "look_at_web" = true) (k10 : PySem.W.keepIn K (.ref f10) = true)
    (a11 : PySem.W.nsIn K mainGlobals "far_by" = some (some (.ref f11))) (l11 : K.lookup f11 = some ⟨oc11, od11, .func (PySem.W.fnOf "far_by" "far_by" (defArgs s_far_by) (defBody s_far_by) (defScope s_far_by) .none kV11 dc11 pm11 an11 cd11 ct11), sl11⟩) (c11 : PySem.W.codeIn K cd11 "far_by" = true) (k11 : PySem.W.keepIn K (.ref f11) = true)
    (a12 : PySem.W.nsIn K mainGlobals "beside_all" = some (some (.ref f12))) (l12 : K.lookup f12 = some ⟨oc12, od12, .func (PySem.W.fnOf "beside_all" "beside_all" (defArgs s_beside_all) (defBody s_beside_all) (defScope s_beside_all) .none kV12 dc12 pm12 an12 cd12 ct12), sl12⟩) (c12 : PySem.W.codeIn K cd12 "beside_all" = true) (k12 : PySem.W.keepIn K (.ref f12) = true)
    (a13 : PySem.W.nsIn K mainGlobals "together" = some (some (.ref f13))) (l13 : K.lookup f13 = some ⟨oc13, od13, .func (PySem.W.fnOf "together" "together" (defArgs s_together) (defBody s_together) (defScope s_together) .none kV13 dc13 pm13 an13 cd13 ct13), sl13⟩) (c13 : PySem.W.codeIn K cd13 "together" = true) (k13 : PySem.W.keepIn K (.ref f13) = true)
    (a14 : PySem.W.nsIn K mainGlobals "look_together" = some (some (.ref f14))) (l14 : K.lookup f14 = some ⟨oc14, od14, .func (PySem.W.fnOf "look_together" "look_together" (defArgs s_look_together) (defBody s_look_together) (defScope s_look_together) .none kV14 dc14 pm14 an14 cd14 ct14), sl14⟩) (c14 : PySem.W.codeIn K cd14 "look_together" = true) (k14 : PySem.W.keepIn K (.ref f14) = true)
    (a15 : PySem.W.nsIn K mainGlobals "is_tie_in" = some (some (.ref f15))) (l15 : K.lookup f15 = some ⟨oc15, od15, .func (PySem.W.fnOf "is_tie_in" "is_tie_in" (defArgs s_is_tie_in) (defBody s_is_tie_in) (defScope s_is_tie_in) .none kV15 dc15 pm15 an15 cd15 ct15), sl15⟩) (c15 : PySem.W.codeIn K cd15 "is_tie_in" = true) (k15 : PySem.W.keepIn K (.ref f15) = true)
    (a16 : PySem.W.nsIn K mainGlobals "look_at_ties" = some (some (.ref f16))) (l16 : K.lookup f16 = some ⟨oc16, od16, .func (PySem.W.fnOf "look_at_ties" "look_at_ties" (defArgs s_look_at_ties) (defBody s_look_at_ties) (defScope s_look_at_ties) .none kV16 dc16 pm16 an16 cd16 ct16), sl16⟩) (c16 : PySem.W.codeIn K cd16 "look_at_ties" = true) (k16 : PySem.W.keepIn K (.ref f16) = true)
    (a17 : PySem.W.nsIn K mainGlobals "corner_in" = some (some (.ref f17))) (l17 : K.lookup f17 = some ⟨oc17, od17, .func (PySem.W.fnOf "corner_in" "corner_in" (defArgs s_corner_in) (defBody s_corner_in) (defScope s_corner_in) .none kV17 dc17 pm17 an17 cd17 ct17), sl17⟩) (c17 : PySem.W.codeIn K cd17 "corner_in" = true) (k17 : PySem.W.keepIn K (.ref f17) = true)
    (a18 : PySem.W.nsIn K mainGlobals "is_corner" = some (some (.ref f18))) (l18 : K.lookup f18 = some ⟨oc18, od18, .func (PySem.W.fnOf "is_corner" "is_corner" (defArgs s_is_corner) (defBody s_is_corner) (defScope s_is_corner) .none kV18 dc18 pm18 an18 cd18 ct18), sl18⟩) (c18 : PySem.W.codeIn K cd18 "is_corner" = true) (k18 : PySem.W.keepIn K (.ref f18) = true)
    (a19 : PySem.W.nsIn K mainGlobals "law" = some (some (.ref f19))) (l19 : K.lookup f19 = some ⟨oc19, od19, .func (PySem.W.fnOf "law" "law" (defArgs s_law) (defBody s_law) (defScope s_law) .none kV19 dc19 pm19 an19 cd19 ct19), sl19⟩) (c19 : PySem.W.codeIn K cd19 "law" = true) (k19 : PySem.W.keepIn K (.ref f19) = true)
    (z_max : PySem.W.nsIn K mainGlobals "max" = some none)
    (z_len : PySem.W.nsIn K mainGlobals "len" = some none)
    (z_range : PySem.W.nsIn K mainGlobals "range" = some none)
    (z_list : PySem.W.nsIn K mainGlobals "list" = some none)
    (z_min : PySem.W.nsIn K mainGlobals "min" = some none)
    (z_sorted : PySem.W.nsIn K mainGlobals "sorted" = some none)
    (z_int : PySem.W.nsIn K mainGlobals "int" = some none)
    (z_set : PySem.W.nsIn K mainGlobals "set" = some none)
    (z_isinstance : PySem.W.nsIn K mainGlobals "isinstance" = some none)
    (z_bool : PySem.W.nsIn K mainGlobals "bool" = some none)
    (z_tuple : PySem.W.nsIn K mainGlobals "tuple" = some none)
    (z_enumerate : PySem.W.nsIn K mainGlobals "enumerate" = some none)
    (y_MOST_PLACES : PySem.W.nsIn K mainGlobals "MOST_PLACES" = some (some (.int 40 tg_MOST_PLACES)))
    (y_MOST_TIES : PySem.W.nsIn K mainGlobals "MOST_TIES" = some (some (.int 120 tg_MOST_TIES)))
    : ∃ fd : FuncData, (∀ (s : Shared) (v : Value), BindsTo s fd ⟨[v], []⟩ [("_law_script", v)]) ∧ ∀ base : Heap, K.In base → base.Ns mainGlobals mg → FnG l.prog w K mg base CX0 7 fa fd ["_law_script"] (sp_law K) := by
  have e := hfa.symm.trans (PySem.W.mg_of X G a19)
  cases e
  have B : Blt mg := ⟨PySem.W.mg_none_of X G z_max, PySem.W.mg_none_of X G z_len, PySem.W.mg_none_of X G z_range, PySem.W.mg_none_of X G z_list, PySem.W.mg_none_of X G z_min, PySem.W.mg_none_of X G z_sorted, PySem.W.mg_none_of X G z_int, PySem.W.mg_none_of X G z_set, PySem.W.mg_none_of X G z_isinstance, PySem.W.mg_none_of X G z_bool, PySem.W.mg_none_of X G z_tuple, PySem.W.mg_none_of X G z_enumerate, ⟨_, PySem.W.mg_of X G y_MOST_PLACES⟩, ⟨_, PySem.W.mg_of X G y_MOST_TIES⟩⟩
  have F0 := fun_mk (st := s_law_numbers) l0 c0 k0
  have F1 := fun_mk (st := s_law_cell_at) l1 c1 k1
  have F2 := fun_mk (st := s_law_web) l2 c2 k2
  have F3 := fun_mk (st := s_law_one_web) l3 c3 k3
  have F4 := fun_mk (st := s_law_beside) l4 c4 k4
  have F5 := fun_mk (st := s_law_pairs) l5 c5 k5
  have F6 := fun_mk (st := s_law_is_corner) l6 c6 k6
  have F7 := fun_mk (st := s_is_whole) l7 c7 k7
  have F8 := fun_mk (st := s_is_within) l8 c8 k8
  have F9 := fun_mk (st := s_is_tie) l9 c9 k9
  have F10 := fun_mk (st := s_look_at_web) l10 c10 k10
  have F11 := fun_mk (st := s_far_by) l11 c11 k11
  have F12 := fun_mk (st := s_beside_all) l12 c12 k12
  have F13 := fun_mk (st := s_together) l13 c13 k13
  have F14 := fun_mk (st := s_look_together) l14 c14 k14
  have F15 := fun_mk (st := s_is_tie_in) l15 c15 k15
  have F16 := fun_mk (st := s_look_at_ties) l16 c16 k16
  have F17 := fun_mk (st := s_corner_in) l17 c17 k17
  have F18 := fun_mk (st := s_is_corner) l18 c18 k18
  have F19 := fun_mk (st := s_law) l19 c19 k19
  refine ⟨PySem.W.fnOf "law" "law" (defArgs s_law) (defBody s_law) (defScope s_law) .none kV19 dc19 pm19 an19 cd19 ct19, fun s v => .of_eq rfl, fun base _ _ => ?_⟩
  have G0 : FnG l.prog w K mg base CX0 1 f0 _ ["_law_cell", "_law_salt", "_law_sizes"] (sp_law_numbers K) := ok_law_numbers F0 B 
  have C0 : Cal l.prog w K mg base 1 "_law_numbers" ["_law_cell", "_law_salt", "_law_sizes"] (sp_law_numbers K) := ⟨_, _, G0, PySem.W.mg_of X G a0, F0.kp, F0.binds (ps := ["_law_cell", "_law_salt", "_law_sizes"]) fun _ _ _ _ _ _ us hl => match us, hl with | [_, _, _], _ => rfl⟩
  have G1 : FnG l.prog w K mg base CX0 1 f1 _ ["_law_script", "_law_k"] (sp_law_cell_at K) := ok_law_cell_at F1 B 
  have C1 : Cal l.prog w K mg base 1 "_law_cell_at" ["_law_script", "_law_k"] (sp_law_cell_at K) := ⟨_, _, G1, PySem.W.mg_of X G a1, F1.kp, F1.binds (ps := ["_law_script", "_law_k"]) fun _ _ _ _ _ _ us hl => match us, hl with | [_, _], _ => rfl⟩
  have G2 : FnG l.prog w K mg base CX0 2 f2 _ ["_law_cell", "_law_salt", "_law_most", "_law_more"] (sp_law_web K) := ok_law_web F2 B C0
  have C2 : Cal l.prog w K mg base 2 "_law_web" ["_law_cell", "_law_salt", "_law_most", "_law_more"] (sp_law_web K) := ⟨_, _, G2, PySem.W.mg_of X G a2, F2.kp, F2.binds (ps := ["_law_cell", "_law_salt", "_law_most", "_law_more"]) fun _ _ _ _ _ _ us hl => match us, hl with | [_, _, _, _], _ => rfl⟩
  have G3 : FnG l.prog w K mg base CX0 3 f3 _ ["_law_script", "_law_k", "_law_salt"] (sp_law_one_web K) := ok_law_one_web F3 B C0 C1 C2
  have C3 : Cal l.prog w K mg base 3 "_law_one_web" ["_law_script", "_law_k", "_law_salt"] (sp_law_one_web K) := ⟨_, _, G3, PySem.W.mg_of X G a3, F3.kp, F3.binds (ps := ["_law_script", "_law_k", "_law_salt"]) fun _ _ _ _ _ _ us hl => match us, hl with | [_, _, _], _ => rfl⟩
  have G4 : FnG l.prog w K mg base CX0 1 f4 _ ["_law_web_here"] (sp_law_beside K) := ok_law_beside F4 B 
  have C4 : Cal l.prog w K mg base 1 "_law_beside" ["_law_web_here"] (sp_law_beside K) := ⟨_, _, G4, PySem.W.mg_of X G a4, F4.kp, F4.binds (ps := ["_law_web_here"]) fun _ _ _ _ _ _ us hl => match us, hl with | [_], _ => rfl⟩
  have G5 : FnG l.prog w K mg base CX0 1 f5 _ ["_law_digits", "_law_ties"] (sp_law_pairs K) := ok_law_pairs F5 B 
  have C5 : Cal l.prog w K mg base 1 "_law_pairs" ["_law_digits", "_law_ties"] (sp_law_pairs K) := ⟨_, _, G5, PySem.W.mg_of X G a5, F5.kp, F5.binds (ps := ["_law_digits", "_law_ties"]) fun _ _ _ _ _ _ us hl => match us, hl with | [_, _], _ => rfl⟩
  have G6 : FnG l.prog w K mg base CX0 1 f6 _ ["_law_beside_here", "_law_tie", "_law_other"] (sp_law_is_corner K) := ok_law_is_corner F6 B 
  have C6 : Cal l.prog w K mg base 1 "_law_is_corner" ["_law_beside_here", "_law_tie", "_law_other"] (sp_law_is_corner K) := ⟨_, _, G6, PySem.W.mg_of X G a6, F6.kp, F6.binds (ps := ["_law_beside_here", "_law_tie", "_law_other"]) fun _ _ _ _ _ _ us hl => match us, hl with | [_, _, _], _ => rfl⟩
  have G7 : FnG l.prog w K mg base CX0 1 f7 _ ["thing"] (sp_is_whole K) := ok_is_whole F7 B 
  have C7 : Cal l.prog w K mg base 1 "is_whole" ["thing"] (sp_is_whole K) := ⟨_, _, G7, PySem.W.mg_of X G a7, F7.kp, F7.binds (ps := ["thing"]) fun _ _ _ _ _ _ us hl => match us, hl with | [_], _ => rfl⟩
  have G8 : FnG l.prog w K mg base CX0 2 f8 _ ["thing", "least", "most"] (sp_is_within K) := ok_is_within F8 B C7
  have C8 : Cal l.prog w K mg base 2 "is_within" ["thing", "least", "most"] (sp_is_within K) := ⟨_, _, G8, PySem.W.mg_of X G a8, F8.kp, F8.binds (ps := ["thing", "least", "most"]) fun _ _ _ _ _ _ us hl => match us, hl with | [_, _, _], _ => rfl⟩
  have G9 : FnG l.prog w K mg base CX0 3 f9 _ ["many", "thing"] (sp_is_tie K) := ok_is_tie F9 B C8
  have C9 : Cal l.prog w K mg base 3 "is_tie" ["many", "thing"] (sp_is_tie K) := ⟨_, _, G9, PySem.W.mg_of X G a9, F9.kp, F9.binds (ps := ["many", "thing"]) fun _ _ _ _ _ _ us hl => match us, hl with | [_, _], _ => rfl⟩
  have G10 : FnG l.prog w K mg base CX0 4 f10 _ ["thing"] (sp_look_at_web K) := ok_look_at_web F10 B C8 C9
  have C10 : Cal l.prog w K mg base 4 "look_at_web" ["thing"] (sp_look_at_web K) := ⟨_, _, G10, PySem.W.mg_of X G a10, F10.kp, F10.binds (ps := ["thing"]) fun _ _ _ _ _ _ us hl => match us, hl with | [_], _ => rfl⟩
  have G11 : FnG l.prog w K mg base CX0 1 f11 _ ["beside", "place"] (sp_far_by K) := ok_far_by F11 B 
  have C11 : Cal l.prog w K mg base 1 "far_by" ["beside", "place"] (sp_far_by K) := ⟨_, _, G11, PySem.W.mg_of X G a11, F11.kp, F11.binds (ps := ["beside", "place"]) fun _ _ _ _ _ _ us hl => match us, hl with | [_, _], _ => rfl⟩
  have G12 : FnG l.prog w K mg base CX0 1 f12 _ ["web"] (sp_beside_all K) := ok_beside_all F12 B 
  have C12 : Cal l.prog w K mg base 1 "beside_all" ["web"] (sp_beside_all K) := ⟨_, _, G12, PySem.W.mg_of X G a12, F12.kp, F12.binds (ps := ["web"]) fun _ _ _ _ _ _ us hl => match us, hl with | [_], _ => rfl⟩
  have G13 : FnG l.prog w K mg base CX0 2 f13 _ ["web"] (sp_together K) := ok_together F13 B C11 C12
  have C13 : Cal l.prog w K mg base 2 "together" ["web"] (sp_together K) := ⟨_, _, G13, PySem.W.mg_of X G a13, F13.kp, F13.binds (ps := ["web"]) fun _ _ _ _ _ _ us hl => match us, hl with | [_], _ => rfl⟩
  have G14 : FnG l.prog w K mg base CX0 3 f14 _ ["web"] (sp_look_together K) := ok_look_together F14 B C13
  have C14 : Cal l.prog w K mg base 3 "look_together" ["web"] (sp_look_together K) := ⟨_, _, G14, PySem.W.mg_of X G a14, F14.kp, F14.binds (ps := ["web"]) fun _ _ _ _ _ _ us hl => match us, hl with | [_], _ => rfl⟩
  have G15 : FnG l.prog w K mg base CX0 4 f15 _ ["web", "thing"] (sp_is_tie_in K) := ok_is_tie_in F15 B C9
  have C15 : Cal l.prog w K mg base 4 "is_tie_in" ["web", "thing"] (sp_is_tie_in K) := ⟨_, _, G15, PySem.W.mg_of X G a15, F15.kp, F15.binds (ps := ["web", "thing"]) fun _ _ _ _ _ _ us hl => match us, hl with | [_, _], _ => rfl⟩
  have G16 : FnG l.prog w K mg base CX0 5 f16 _ ["web", "tie", "other"] (sp_look_at_ties K) := ok_look_at_ties F16 B C15
  have C16 : Cal l.prog w K mg base 5 "look_at_ties" ["web", "tie", "other"] (sp_look_at_ties K) := ⟨_, _, G16, PySem.W.mg_of X G a16, F16.kp, F16.binds (ps := ["web", "tie", "other"]) fun _ _ _ _ _ _ us hl => match us, hl with | [_, _, _], _ => rfl⟩
  have G17 : FnG l.prog w K mg base CX0 1 f17 _ ["beside", "tie", "other"] (sp_corner_in K) := ok_corner_in F17 B 
  have C17 : Cal l.prog w K mg base 1 "corner_in" ["beside", "tie", "other"] (sp_corner_in K) := ⟨_, _, G17, PySem.W.mg_of X G a17, F17.kp, F17.binds (ps := ["beside", "tie", "other"]) fun _ _ _ _ _ _ us hl => match us, hl with | [_, _, _], _ => rfl⟩
  have G18 : FnG l.prog w K mg base CX0 6 f18 _ ["web", "tie", "other"] (sp_is_corner K) := ok_is_corner F18 B C10 C14 C16 C17 C12
  have C18 : Cal l.prog w K mg base 6 "is_corner" ["web", "tie", "other"] (sp_is_corner K) := ⟨_, _, G18, PySem.W.mg_of X G a18, F18.kp, F18.binds (ps := ["web", "tie", "other"]) fun _ _ _ _ _ _ us hl => match us, hl with | [_, _, _], _ => rfl⟩
  have G19 : FnG l.prog w K mg base CX0 7 fa _ ["_law_script"] (sp_law K) := ok_law F19 B C3 C4 C0 C1 C5 C6 C18
  exact G19
end G39.Lw
open PySem PySem.W PyProof.Rows
set_option maxHeartbeats 0 in
theorem PySem.Challenge.cw_webtimes_k24_corner_links_holds : PySem.Challenge.rw_webtimes_k24_corner_links.Holds := by
  w_on; o_law; k_head; (case hw => w_witness2)
  k_fill
  refine G39.walkG (l := PySem.Challenge.rw_webtimes_k24_corner_links) (n := 63) (k := 7) (x := "_law_script") (sp := fun w => G39.sp_law _) rfl (by decide) rfl ⟨rfl, by decide, by decide⟩ (fun w h Y => PySem.W.kIn_of Y) ?F (fun _ _ a ns hl _ hS => ⟨a, ns, rfl, hS, hl, fun _ => rfl⟩)
  case F =>
    intro w mg fa h KX G hmg
    refine' G39.Lw.all_mk KX G hmg ?a0 ?l0 ?c0 ?k0 ?a1 ?l1 ?c1 ?k1 ?a2 ?l2 ?c2 ?k2 ?a3 ?l3 ?c3 ?k3 ?a4 ?l4 ?c4 ?k4 ?a5 ?l5 ?c5 ?k5 ?a6 ?l6 ?c6 ?k6 ?a7 ?l7 ?c7 ?k7 ?a8 ?l8 ?c8 ?k8 ?a9 ?l9 ?c9 ?k9 ?a10 ?l10 ?c10 ?k10 ?a11 ?l11 ?c11 ?k11 ?a12 ?l12 ?c12 ?k12 ?a13 ?l13 ?c13 ?k13 ?a14 ?l14 ?c14 ?k14 ?a15 ?l15 ?c15 ?k15 ?a16 ?l16 ?c16 ?k16 ?a17 ?l17 ?c17 ?k17 ?a18 ?l18 ?c18 ?k18 ?a19 ?l19 ?c19 ?k19 ?z_max ?z_len ?z_range ?z_list ?z_min ?z_sorted ?z_int ?z_set ?z_isinstance ?z_bool ?z_tuple ?z_enumerate ?y_MOST_PLACES ?y_MOST_TIES
    (case a0 => k_is); (case l0 => k_is); (case c0 => k_is); (case k0 => k_is); (case a1 => k_is); (case l1 => k_is); (case c1 => k_is); (case k1 => k_is); (case a2 => k_is); (case l2 => k_is); (case c2 => k_is); (case k2 => k_is); (case a3 => k_is); (case l3 => k_is); (case c3 => k_is); (case k3 => k_is); (case a4 => k_is); (case l4 => k_is); (case c4 => k_is); (case k4 => k_is); (case a5 => k_is); (case l5 => k_is); (case c5 => k_is); (case k5 => k_is); (case a6 => k_is); (case l6 => k_is); (case c6 => k_is); (case k6 => k_is); (case a7 => k_is); (case l7 => k_is); (case c7 => k_is); (case k7 => k_is); (case a8 => k_is); (case l8 => k_is); (case c8 => k_is); (case k8 => k_is); (case a9 => k_is); (case l9 => k_is); (case c9 => k_is); (case k9 => k_is); (case a10 => k_is); (case l10 => k_is); (case c10 => k_is); (case k10 => k_is); (case a11 => k_is); (case l11 => k_is); (case c11 => k_is); (case k11 => k_is); (case a12 => k_is); (case l12 => k_is); (case c12 => k_is); (case k12 => k_is); (case a13 => k_is); (case l13 => k_is); (case c13 => k_is); (case k13 => k_is); (case a14 => k_is); (case l14 => k_is); (case c14 => k_is); (case k14 => k_is); (case a15 => k_is); (case l15 => k_is); (case c15 => k_is); (case k15 => k_is); (case a16 => k_is); (case l16 => k_is); (case c16 => k_is); (case k16 => k_is); (case a17 => k_is); (case l17 => k_is); (case c17 => k_is); (case k17 => k_is); (case a18 => k_is); (case l18 => k_is); (case c18 => k_is); (case k18 => k_is); (case a19 => k_is); (case l19 => k_is); (case c19 => k_is); (case k19 => k_is); (case z_max => k_is); (case z_len => k_is); (case z_range => k_is); (case z_list => k_is); (case z_min => k_is); (case z_sorted => k_is); (case z_int => k_is); (case z_set => k_is); (case z_isinstance => k_is); (case z_bool => k_is); (case z_tuple => k_is); (case z_enumerate => k_is); (case y_MOST_PLACES => k_is); (case y_MOST_TIES => k_is)
