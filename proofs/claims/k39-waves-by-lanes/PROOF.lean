import PyProof.Rows.All
import Wide.All
import OpenK.AllK
import Wide.FinOn
import HandS.ForMost
import HandS.ForExc
import HandS.CallSlots
import HandS.Wide
import HandS.Flow
import HandS.Walk
import HandS.TupAny
import HandS.RaiseMore
import HandS.Conv
import HandS.Deep
import PyProof.SumWalkG
import PyProof.Rows.SumAny
import PyProof.TwoTypesSub
import HandS.TryOnly
import HandS.Style
import KE.KExcSuper
import HandS.Exc
import HandS.IsInst
import HandS.Codes
import HandS.Zip
import HandS.WideBits
import HandS.Star
import PyProof.LongRange
import HandS.More
import HandS.Dict
import HandS.HeadHook3
import PyProof.MeetsDict
import HandS.Iter
import HandS.Text
import HandS.Defaults
import PyProof.ListRange
import KE.GoesMore
import PyProof.NoPylong
import PySem.Challenge.RW_stridelanes_k39_waves_by_lanes
set_option Elab.async false
set_option linter.all false
set_option maxRecDepth 100000
set_option maxHeartbeats 4000000
/-! PLG: promises of defs that are called where nothing is being shown (no repr runs around): what repr asks. -/
namespace PL
open PySem PySem.Spec PyProof.Rows L2

/-- as FnOk, at calls around which no guard of repr is open -/
structure FnG (P : Program) (w : World) (K : PySem.W.Frag) (mg : Str → Option Value) (base : Heap) (Cn : CXT) (k : Nat) (f : Addr) (fd : FuncData) (ps : List Str) (sp : Sp) : Prop where
  gl : ∀ vs H Q E, sp vs H Q E → vs.length = ps.length
  go : ∀ (A : Around) (outer : List Env) (s : Shared) (H : Hp) (args : Args) (us : List Value) (vs : List V) (Q : VK) (E : XK),
    Room k A → A.guards = some [] → Env0 P w K mg base A outer s H → BindsTo s fd args (ps.zip us) → Vals vs us → sp vs H Q E →
      codeAny (model P w) A (.call (.ref f) args) (CR Cn outer P w H s Q E) s
theorem FnG.mono {P : Program} {w : World} {K : PySem.W.Frag} {mg : Str → Option Value} {base : Heap} {Cn : CXT} {j k : Nat} {f : Addr} {fd : FuncData} {ps : List Str} {sp : Sp}
    (F : FnG P w K mg base Cn j f fd ps sp) (h : j ≤ k) : FnG P w K mg base Cn k f fd ps sp :=
  ⟨F.gl, fun A outer s H args us vs Q E room => F.go A outer s H args us vs Q E (room.mono h)⟩

section
variable {P : Program} {w : World} {K : PySem.W.Frag} {mg : Str → Option Value} {base : Heap}
/-- a def of the text keeps its promise -/
theorem fng_of {Cn : CXT} {k : Nat} {x qual : Str} {st : Stmt} {f : Addr} {fd : FuncData} {N ps : List Str} {sp : Sp} (F : Fun K x qual st f fd) (S : FnScope N ps (defScope st))
    (gl : ∀ vs H Q E, sp vs H Q E → vs.length = ps.length)
    (hbody : ∀ (cdv : Value) (A : Around) (outer : List Env) (s : Shared) (H : Hp) (vs : List V) (Q : VK) (E : XK), Room k (A.deeper (envOfC qual (defScope st) s.heap.objs.size f cdv)) →
      A.guards = some [] → sp vs H Q E → ∃ t, PSs (cxOf Cn P w K mg base N qual (defScope st) f cdv A outer s H E) (defBody st) t ∧ t { nx := fun _ H' => Q .non H', rt := Q } (start N vs) H) :
    FnG P w K mg base Cn (k + 1) f fd ps sp := by
  obtain ⟨oc, od, kV, doc, pm, an, cdv, ct, osl, rfl, lk, cod⟩ := F.ex
  refine ⟨gl, ?_⟩
  intro A outer s H args us vs Q E room gu e0 bnd rel hsp
  have hlen := gl _ _ _ _ hsp
  have inK : K.In s.heap := e0.mod.kin.keeps fun a u q => (e0.bs a u q).1
  have nolim : s.heap.NoLimit := e0.mod.nolimit.keeps fun a u q => (e0.bs a u q).1
  have kinds : ∀ y ∈ ps.zip us, (defScope st).names.lookup y.1 = some .local ∨
      ((defScope st).names.lookup y.1 = some .cell ∧ ((cellsFrom (s.heap.objs.size + 1) (defScope st).names []).lookup y.1).isSome = true) := by
    rintro ⟨n, v⟩ hy
    cases S.par n (List.of_mem_zip hy).1 with
    | inl z => exact .inl z
    | inr z => exact .inr ⟨z, PySem.W.cellsFrom_some _ _ _ (.inl z)⟩
  refine codeAny_call_function room.depth (inK _ _ lk) rfl S.co S.gen rfl (PySem.W.codeRec_of inK cod) (bnd _ _ _ _ ?_)
  refine wpAny_newFunctionEnv_cells S.kind kinds ?_
  intro env he s1 made
  subst he
  refine ⟨nolim.keeps made.toInCall.keep, codeAny_func ?_⟩
  obtain ⟨t, tr, tq⟩ := hbody cdv A outer s H vs Q E (room.deeper _) gu hsp
  have I0 := inv_start (CX := Cn) (E := E) S room.hd e0 hlen rel made
  refine wpAny_mono (tr.run [] s1 (start N vs) H _ I0 tq) ?_ fun e s' z => z
  intro fl s' end'
  cases fl with
  | brk => obtain ⟨_, _, _, z⟩ := end'; exact z.elim
  | cont => obtain ⟨_, _, _, z⟩ := end'; exact z.elim
  | next =>
    obtain ⟨σ', H', J, z⟩ := end'
    exact ⟨.non, H', J.os, J.bare, J.base, J.hok, rfl, z⟩
  | ret u =>
    obtain ⟨v, σ', H', J, rv, z⟩ := end'
    exact ⟨v, H', J.os, J.bare, J.base, J.hok, rv, z⟩
end
section
variable {X : Cx} {Cn : CXT} {k : Nat} {f : Addr} {fd : FuncData} {ps : List Str} {sp : Sp} {dvs : List V} {ds : List Value} {E : L2.St → XK} {x : Str} {p pos : Pos} {e : Expr} {es : List Expr} {t : TA}
theorem cr_ep {pins : List (Addr × Obj)} {σ : L2.St} {H : Hp} {s : Shared} {Q : VK} {D : XK} (hx : PassesAt Cn X σ D) (I : Inv X pins σ H s) {r : Result} {s' : Shared} (h : CR Cn X.stack X.prog X.w H s Q D r s') :
    match r with
    | .ok (.ret u) => EP X pins σ Q u s'
    | .ok _ => False
    | .error er => X.xe er s' := by
  cases r with
  | error er => exact hx pins H s er s' I h
  | ok fl => cases fl with
    | ret u => exact I.after h
    | next => exact h
    | brk => exact h
    | cont => exact h
theorem run_fng {pins : List (Addr × Obj)} {σ : L2.St} {H : Hp} {s : Shared} {Q : VK} {us : List Value} {vs : List V} (F : FnG X.prog X.w X.K X.mg X.base Cn k f fd ps sp) (room : Room k X.A) (gu : X.A.guards = some [])
    (hb : Binds X.K fd ps ds) (hd : Vals dvs ds) (hx : PassesAt Cn X σ (E σ)) (I : Inv X pins σ H s) (rel : Vals vs us) (h : sp (vs ++ dvs) H Q (E σ)) :
    wpAny (model X.prog X.w) X.A (call (.ref f) us) (EP X pins σ Q) X.xe s := by
  have rel2 : Vals (vs ++ dvs) (us ++ ds) := rel.append hd
  have n2 : (us ++ ds).length = ps.length := by rw [← rel2.length]; exact F.gl _ _ _ _ h
  refine wpAny_call (codeAny_mono (F.go X.A X.stack s H ⟨us, []⟩ (us ++ ds) (vs ++ dvs) Q (E σ) room gu I.env0 (hb s us I.kIn n2) rel2 h) ?_)
  intro r s' z
  have q := cr_ep hx I z
  cases r with
  | error er => exact q
  | ok fl => cases fl <;> first | exact q | exact q.elim
def tCallG (sp : Sp) (dvs : List V) (E : L2.St → XK) (t : TA) : TE := fun σ H Q => t σ H fun vs H1 => sp (vs ++ dvs) H1 Q (E σ)
theorem pe_callG (F : FnG X.prog X.w X.K X.mg X.base Cn k f fd ps sp) (room : Room k X.A) (gu : X.A.guards = some []) (hg : Gl X x) (hm : X.mg x = some (.ref f)) (hk : PySem.W.keepIn X.K (.ref f) = true)
    (hb : Binds X.K fd ps ds) (hd : Vals dvs ds) (hx : ∀ σ, PassesAt Cn X σ (E σ)) (ha : PA X (e :: es) t) (hdb : (x == ("__debug__" : Str)) = false)
    (he : starEach (e :: es) X.env = (false, eval e X.env) :: starEach es X.env) (hpl : (backTo pos (starEach es X.env)).any (·.1) = false) :
    PE X (.Call (.Name x p) (e :: es) [] pos) (tCallG sp dvs E t) := by
  refine ⟨?_⟩
  intro pins s σ H Q I h
  refine wpAny_Call_Name_kw (ld_glob I hg hm ?_ hdb)
  refine PySem.W.callWith_K (h₀ := X.base) I.ok.mod.kin hk (thn (ha.run pos pins s σ H _ I h) ?_) he hpl
  rintro us s1 ⟨vs, H1, I1, rel, q⟩
  exact ⟨I1.kIn, run_fng F room gu hb hd (hx σ) I1 rel q⟩
/-- f(), all defaults or no parameters -/
theorem pe_callG0 (F : FnG X.prog X.w X.K X.mg X.base Cn k f fd ps sp) (room : Room k X.A) (gu : X.A.guards = some []) (hg : Gl X x) (hm : X.mg x = some (.ref f)) (hk : PySem.W.keepIn X.K (.ref f) = true)
    (hb : Binds X.K fd ps ds) (hd : Vals dvs ds) (hx : ∀ σ, PassesAt Cn X σ (E σ)) (hdb : (x == ("__debug__" : Str)) = false) : PE X (.Call (.Name x p) [] [] pos) (tCallG sp dvs E tNil) := by
  refine ⟨?_⟩
  intro pins s σ H Q I h
  refine wpAny_Call_Name_kw (ld_glob I hg hm ?_ hdb)
  exact PySem.W.callWith_K0 I.kIn hk (run_fng (us := []) F room gu hb hd (hx σ) I .nil h)
/-- with keywords -/
theorem run_fngK {ks : List Str} {g : List Value → List Value → List Value} {gV : List V → List V → List V} {pins : List (Addr × Obj)} {σ : L2.St} {H : Hp} {s : Shared} {Q : VK} {us ws : List Value} {vs zs : List V}
    (F : FnG X.prog X.w X.K X.mg X.base Cn k f fd ps sp) (room : Room k X.A) (gu : X.A.guards = some []) (hb : KBinds X.K fd ps ks g gV) (hx : PassesAt Cn X σ (E σ)) (I : Inv X pins σ H s) (rel : Vals vs us) (relz : Vals zs ws)
    (h : sp (gV vs zs) H Q (E σ)) : wpAny (model X.prog X.w) X.A (call (.ref f) us (ks.zip ws)) (EP X pins σ Q) X.xe s := by
  have rel2 := hb.rel rel relz
  have n2 : (g us ws).length = ps.length := by rw [← rel2.length]; exact F.gl _ _ _ _ h
  refine wpAny_call (codeAny_mono (F.go X.A X.stack s H ⟨us, ks.zip ws⟩ (g us ws) (gV vs zs) Q (E σ) room gu I.env0 (hb.to s us ws I.kIn n2) rel2 h) ?_)
  intro r s' z
  have q := cr_ep hx I z
  cases r with
  | error er => exact q
  | ok fl => cases fl <;> first | exact q | exact q.elim
def tCallGK (sp : Sp) (gV : List V → List V → List V) (E : L2.St → XK) (t tk : TA) : TE := fun σ H Q => t σ H fun vs H1 => tk σ H1 fun zs H2 => sp (gV vs zs) H2 Q (E σ)
theorem pe_callGK {ks : List Str} {g : List Value → List Value → List Value} {gV : List V → List V → List V} {kws : List Keyword} {tk : TA} (F : FnG X.prog X.w X.K X.mg X.base Cn k f fd ps sp) (room : Room k X.A) (gu : X.A.guards = some [])
    (hg : Gl X x) (hm : X.mg x = some (.ref f)) (hk : PySem.W.keepIn X.K (.ref f) = true) (hb : KBinds X.K fd ps ks g gV) (hx : ∀ σ, PassesAt Cn X σ (E σ)) (ha : PA X (e :: es) t) (hkw : PK X kws tk)
    (hall : (backToKw pos (keywordEach kws X.env)).all (·.1.isSome) = true) (hks : (backToKw pos (keywordEach kws X.env)).filterMap (·.1) = ks) (hdb : (x == ("__debug__" : Str)) = false)
    (he : starEach (e :: es) X.env = (false, eval e X.env) :: starEach es X.env) (hpl : ((backTo pos (starEach (e :: es) X.env)).any (·.1) || (backToKw pos (keywordEach kws X.env)).any (·.1.isNone)) = false) :
    PE X (.Call (.Name x p) (e :: es) kws pos) (tCallGK sp gV E t tk) := by
  refine ⟨?_⟩
  intro pins s σ H Q I h
  refine wpAny_Call_Name_kw (ld_glob I hg hm ?_ hdb)
  refine PySem.W.callWith_KW (h₀ := X.base) I.ok.mod.kin hk hall (thn (ha.run pos pins s σ H _ I h) ?_) hpl he
  rintro us s1 ⟨vs, H1, I1, rel, q⟩
  refine thn (hkw.run pos pins s1 σ H1 _ I1 q) ?_
  rintro ws s2 ⟨zs, H2, I2, relz, q2⟩
  refine ⟨I2.kIn, ?_⟩
  rw [hks]
  exact run_fngK F room gu hb (hx σ) I2 rel relz q2
end

/-! ### the law itself -/
/-- the heap as the law finds it: the script alone is tracked, and locked -/
def hp0 (a : Addr) (o : Obj) (xs : List V) : Hp := fun b => if b = a then some (.frz o (.lst xs)) else none
theorem law_callG {P : Program} {w : World} {K : PySem.W.Frag} {mg mb : Str → Option Value} {Cn : CXT} {k : Nat} {fa a : Addr} {fd : FuncData} {x : Str} {sp : Sp} {s : Shared} {vs : List Value} {ns : List Int}
    (inK : K.In s.heap) (nm : s.heap.Ns mainGlobals mg) (nb : s.heap.Ns builtinsNs mb) (hbb : ∀ y : Str, y ≠ "__name__" → mb y = bootBuiltins y) (lim : s.heap.NoLimit) (gen0 : s.gens = #[])
    (obj : s.heap.get? a = some { cls := .type "list", data := .seq vs.toArray }) (isn : IntsAre vs ns) (small : ns.length ≤ sizeLine) (room : Room k callerA)
    (F : ∀ base : Heap, K.In base → base.Ns mainGlobals mg → FnG P w K mg base Cn k fa fd [x] sp) (bnd : ∀ (s : Shared) (u : Value), BindsTo s fd ⟨[u], []⟩ [(x, u)])
    (hsp : ∀ H : Hp, Only H → SqL K H a (ns.map V.int) → sp [.ref a] H (fun v _ => v = .bl true) fun _ _ _ => False)
    (hCn : ∀ H e s', Cn [] H s (fun _ _ _ => False) e s' → False) :
    codeAny (model P w) callerA (.call (.ref fa) ⟨[.ref a], []⟩) (fun r s' => r = .ok (.ret (.bool true)) ∧ OldK s.heap s'.heap ∧ s'.os = s.os ∧ AllBare s'.gens) s := by
  have rel : Vals (ns.map V.int) vs := L2.vals_ints isn
  have go : ∀ H : Hp, Only H → SqL K H a (ns.map V.int) → HOk P w H s.heap → (∀ b u, H b = some u → b = a ∧ K.lookup a = none) →
      codeAny (model P w) callerA (.call (.ref fa) ⟨[.ref a], []⟩) (fun r s' => r = .ok (.ret (.bool true)) ∧ OldK s.heap s'.heap ∧ s'.os = s.os ∧ AllBare s'.gens) s := by
    intro H only sq held one
    have notDict : ∀ {b : Addr} {o : Obj} {es : Array DictEntry} {ep : Nat}, s.heap.get? b = some o → o.data = .dict es ep → H b = none := by
      intro b o es ep e d
      cases q : H b with
      | none => rfl
      | some u =>
        rw [(one b u q).1, obj] at e
        cases e
        cases d
    have ns' : ∀ {b : Addr} {m : Str → Option Value}, s.heap.Ns b m → (hidT s.heap H).Ns b m := by
      rintro b m ⟨o, es, ep, e, d, r⟩
      exact ⟨o, es, ep, hidT_get e (notDict e d), d, r⟩
    have inB : K.In (hidT s.heap H) := by
      intro b o e
      refine hidT_get (inK b o e) ?_
      cases q : H b with
      | none => rfl
      | some u =>
        obtain ⟨e1, e2⟩ := one b u q
        rw [e1, e2] at e
        cases e
    have md : Mod K mg (hidT s.heap H) := ⟨inB, ns' nm, ⟨mb, ns' nb, hbb⟩, by obtain ⟨mc, c1, c2⟩ := lim; exact ⟨mc, ns' c1, c2⟩⟩
    have e0 : Env0 P w K mg (hidT s.heap H) callerA [] s H :=
      ⟨rfl, md, fun b o e => of_hidT e, Nat.le_of_eq (hidT_size _ _), trivial, fun b hb => by simp [frs] at hb, held, .of_eq gen0⟩
    refine codeAny_mono ((F _ inB (ns' nm)).go callerA [] s H ⟨[.ref a], []⟩ [.ref a] [.ref a] _ _ room rfl e0 (bnd s (.ref a)) (.cons rfl .nil) (hsp H only sq)) ?_
    intro r s' h
    cases r with
    | error e => exact (hCn H e s' h).elim
    | ok fl =>
      cases fl with
      | ret u =>
        obtain ⟨v, H', os, bare, un, held', rv, (q : v = .bl true)⟩ := h
        subst q
        cases rv
        refine ⟨rfl, OldK.of_keep ?_, os, bare⟩
        intro b o e
        cases q : H b with
        | none => exact un.keep b o e q (by simp [frs]) (by simp)
        | some u =>
          rcases only b with z | ⟨ob, xs, z⟩
          · rw [q] at z; cases z
          · obtain ⟨e1, _⟩ := held b _ z
            obtain ⟨e2, _⟩ := held' b _ (un.frzs b ob _ z)
            rw [e] at e1
            cases e1
            exact e2
      | next => exact False.elim h
      | brk => exact False.elim h
      | cont => exact False.elim h
  cases hk : K.lookup a with
  | some o =>
    have e := inK a o hk
    rw [obj] at e
    cases e
    refine go (fun _ => none) (fun _ => .inl rfl) (.inr ⟨_, vs.toArray, _, hk, rfl, rfl, rfl, ?_, by simpa using rel⟩) (fun b u z => nomatch z) (fun b u z => nomatch z)
    rw [List.size_toArray, isn.length]
    exact small
  | none =>
    have at_a : hp0 a { cls := .type "list", data := .seq vs.toArray } (ns.map V.int) a = some (.frz { cls := .type "list", data := .seq vs.toArray } (.lst (ns.map V.int))) := if_pos rfl
    have only_a : ∀ b u, hp0 a { cls := .type "list", data := .seq vs.toArray } (ns.map V.int) b = some u → b = a := fun b u z => by
      by_cases hb : b = a
      · exact hb
      · have z2 : (none : Option HO) = some u := (if_neg hb).symm.trans z
        cases z2
    refine go (hp0 a { cls := .type "list", data := .seq vs.toArray } (ns.map V.int)) (fun b => ?_) (.inl (.inr ⟨_, at_a⟩)) (fun b u z => ?_) fun b u z => ⟨only_a b u z, hk⟩
    · by_cases hb : b = a
      · exact .inr ⟨_, _, if_pos hb⟩
      · exact .inl (if_neg hb)
    · have hb := only_a b u z
      subst hb
      rw [at_a] at z
      cases z
      exact ⟨obj, by rw [List.length_map]; exact small, vs, _, rel, obj⟩
/-- the goal behind the head -/
theorem walk_ofG {l : PySem.W.OpenLaw} {n k : Nat} {q : Program} {loose : List Str} {XP : (Str → Option Value) → Heap → Prop} {YP : World → Heap → Prop} {d : DefRec} {K : Params → PySem.W.Frag} {Cn : World → CXT} {sp : World → Sp} {x : Str}
    (hn : l.most = some n) (hn2 : n ≤ sizeLine) (hdf : d.params.defaults = []) (room : Room k callerA) (hY : ∀ (w : World) (h : Heap), YP w h → (K w.params).In h)
    (F : ∀ (w : World) (mg : Str → Option Value) (fa : Addr) (h : Heap), (K w.params).In h → h.Ns mainGlobals mg → mg d.name = some (.ref fa) →
      ∃ fd : FuncData, (∀ (s : Shared) (u : Value), BindsTo s fd ⟨[u], []⟩ [(x, u)]) ∧ ∀ base : Heap, (K w.params).In base → base.Ns mainGlobals mg → FnG l.prog w (K w.params) mg base (Cn w) k fa fd [x] (sp w))
    (hsp : ∀ (w : World) (H : Hp) (a : Addr) (ns : List Int), ns.length ≤ n → Only H → SqL (K w.params) H a (ns.map V.int) → sp w [.ref a] H (fun v _ => v = .bl true) fun _ _ _ => False)
    (hCn : ∀ (w : World) (H : Hp) (s : Shared) (e : Value) (s' : Shared), Cn w [] H s (fun _ _ _ => False) e s' → False) : PySem.W.WalkO q loose XP YP l.row.toRowW d [] (fun f vs => PySem.call f vs) := by
  refine Att.attach_call hn hdf ?_
  intro w s0 s1 mg mb fa o pm cd doc a vs ns G Y ho hd hcd hmg hobj hints hlen hg
  have inK := hY w _ Y
  obtain ⟨fd, bnd, hF⟩ := F w mg fa _ inK G.T.g hmg
  exact law_callG inK G.T.g G.T.b G.T.builtins G.T.nolimit hg hobj hints (Nat.le_trans hlen hn2) room hF bnd (fun H hO hS => hsp w H a ns hlen hO hS) fun H e s' => hCn w H s1 e s'
end PL

/-! PL1: plain values over the hand layer: what stands for what, the state, the judgement of expressions. -/
namespace PL
open PySem PySem.Spec PyProof.Rows L2

/-- a plain value: data that nobody changes; scr: a list that may be read alone (the script) -/
inductive PV where
  | non | bl (b : Bool) | int (i : Int) | str (x : Str)
  | tup (l : List PV) | lst (l : List PV) | scr (l : List PV)
  | ins (c : Str) (fs : List (Str × PV))

/-- an object that is changed in place -/
inductive MO where
  | lst (l : List PV)
  | ins (c : Str) (fs : List (Str × PV))
  | dct (kvs : List (Key × PV))
  | lls (ls : List (List PV))
  | bag (g : List Int) (left turn blend : Int)

/-- what a slot holds: a plain value, an object that this slot alone knows, or the k-th object that was lent to the def -/
inductive SV where
  | val (v : PV) | own (m : MO) | bor (k : Nat)

structure Stt where
  ro : List (Option SV)
  mu : List MO

structure Fx where
  K : PySem.W.Frag
  cl : Str → Addr
  nb : Nat
  be : Nat → Addr
  Bf : Nat → List Addr

mutual
inductive Rp (C : Fx) (F : Hp) : V → PV → Prop
  | non : Rp C F .non .non
  | bl (b : Bool) : Rp C F (.bl b) (.bl b)
  | int (i : Int) : Rp C F (.int i) (.int i)
  | str (x : Str) : Rp C F (.str x) (.str x)
  | tup {a : Addr} {xs : List V} {l : List PV} : SqT C.K F a xs → Rps C F xs l → Rp C F (.ref a) (.tup l)
  | lst {a : Addr} {xs : List V} {l : List PV} : F a = some (.lst xs) → Rps C F xs l → Rp C F (.ref a) (.lst l)
  | scr {a : Addr} {xs : List V} {l : List PV} : SqL C.K F a xs → Rps C F xs l → Rp C F (.ref a) (.scr l)
  | ins {a : Addr} {c : Str} {dx : Addr} {fs : List (Str × V)} {l : List (Str × PV)} : F a = some (.ins (C.cl c) dx fs) → Rpf C F fs l → Rp C F (.ref a) (.ins c l)
inductive Rps (C : Fx) (F : Hp) : List V → List PV → Prop
  | nil : Rps C F [] []
  | cons {v : V} {vs : List V} {p : PV} {ps : List PV} : Rp C F v p → Rps C F vs ps → Rps C F (v :: vs) (p :: ps)
inductive Rpf (C : Fx) (F : Hp) : List (Str × V) → List (Str × PV) → Prop
  | nil : Rpf C F [] []
  | cons {n : Str} {v : V} {vs : List (Str × V)} {p : PV} {ps : List (Str × PV)} : Rp C F v p → Rpf C F vs ps → Rpf C F ((n, v) :: vs) ((n, p) :: ps)
end

theorem sqT_mono {K : PySem.W.Frag} {H H' : Hp} {a : Addr} {xs : List V} (e : Same H H') (h : SqT K H a xs) : SqT K H' a xs := by
  rcases h with (h | ⟨o, h⟩) | h
  · exact .inl (.inl (e _ _ h))
  · exact .inl (.inr ⟨o, e _ _ h⟩)
  · exact .inr h

mutual
theorem Rp.mono {C : Fx} {F F' : Hp} (e : Same F F') : ∀ {v : V} {p : PV}, Rp C F v p → Rp C F' v p
  | _, _, .non => .non
  | _, _, .bl b => .bl b
  | _, _, .int i => .int i
  | _, _, .str x => .str x
  | _, _, .tup h r => .tup (sqT_mono e h) (Rps.mono e r)
  | _, _, .lst h r => .lst (e _ _ h) (Rps.mono e r)
  | _, _, .scr h r => .scr (e.seq h) (Rps.mono e r)
  | _, _, .ins h r => .ins (e _ _ h) (Rpf.mono e r)
theorem Rps.mono {C : Fx} {F F' : Hp} (e : Same F F') : ∀ {v : List V} {p : List PV}, Rps C F v p → Rps C F' v p
  | _, _, .nil => .nil
  | _, _, .cons h r => .cons (Rp.mono e h) (Rps.mono e r)
theorem Rpf.mono {C : Fx} {F F' : Hp} (e : Same F F') : ∀ {v : List (Str × V)} {p : List (Str × PV)}, Rpf C F v p → Rpf C F' v p
  | _, _, .nil => .nil
  | _, _, .cons h r => .cons (Rp.mono e h) (Rpf.mono e r)
end

section
variable {C : Fx} {F : Hp}
theorem Rps.length : ∀ {vs : List V} {ps : List PV}, Rps C F vs ps → vs.length = ps.length
  | _, _, .nil => rfl
  | _, _, .cons _ r => by rw [List.length_cons, List.length_cons, Rps.length r]
theorem Rps.get : ∀ {vs : List V} {ps : List PV} {i : Nat} {p : PV}, Rps C F vs ps → ps[i]? = some p → ∃ v, vs[i]? = some v ∧ Rp C F v p
  | _, _, _, _, .nil, e => by simp at e
  | _, _, 0, _, .cons r _, e => by simp at e; subst e; exact ⟨_, rfl, r⟩
  | _, _, i + 1, _, .cons _ t, e => by
    obtain ⟨v, h1, h2⟩ := Rps.get (i := i) t (by simpa using e)
    exact ⟨v, by simpa using h1, h2⟩
theorem Rps.getV : ∀ {vs : List V} {ps : List PV} {i : Nat} {v : V}, Rps C F vs ps → vs[i]? = some v → ∃ p, ps[i]? = some p ∧ Rp C F v p
  | _, _, _, _, .nil, e => by simp at e
  | _, _, 0, _, .cons r _, e => by simp at e; subst e; exact ⟨_, rfl, r⟩
  | _, _, i + 1, _, .cons _ t, e => by
    obtain ⟨v, h1, h2⟩ := Rps.getV (i := i) t (by simpa using e)
    exact ⟨v, by simpa using h1, h2⟩
theorem Rps.append : ∀ {xs ys : List V} {ps qs : List PV}, Rps C F xs ps → Rps C F ys qs → Rps C F (xs ++ ys) (ps ++ qs)
  | _, _, _, _, .nil, s => s
  | _, _, _, _, .cons r t, s => .cons r (Rps.append t s)
theorem Rps.take : ∀ {xs : List V} {ps : List PV} (n : Nat), Rps C F xs ps → Rps C F (xs.take n) (ps.take n)
  | _, _, 0, _ => .nil
  | _, _, _ + 1, .nil => .nil
  | _, _, n + 1, .cons r t => .cons r (Rps.take n t)
theorem Rps.drop : ∀ {xs : List V} {ps : List PV} (n : Nat), Rps C F xs ps → Rps C F (xs.drop n) (ps.drop n)
  | _, _, 0, r => r
  | _, _, _ + 1, .nil => .nil
  | _, _, n + 1, .cons _ t => Rps.drop n t
theorem Rps.set {v : V} {p : PV} (r : Rp C F v p) : ∀ {xs : List V} {ps : List PV} (n : Nat), Rps C F xs ps → Rps C F (xs.set n v) (ps.set n p)
  | _, _, _, .nil => .nil
  | _, _, 0, .cons _ t => .cons r t
  | _, _, n + 1, .cons q t => .cons q (Rps.set r n t)
theorem Rps.reverse {xs : List V} {ps : List PV} (r : Rps C F xs ps) : Rps C F xs.reverse ps.reverse := by
  induction r using Rps.rec (motive_1 := fun _ _ _ => True) (motive_3 := fun _ _ _ => True) with
  | nil => exact .nil
  | cons h _ _ ih =>
    rw [List.reverse_cons, List.reverse_cons]
    exact Rps.append ih (.cons h .nil)
  | _ => trivial
theorem Rps.ints : ∀ {vs : List V} {ns : List Int}, Rps C F vs (ns.map PV.int) → vs = ns.map V.int
  | [], [], _ => rfl
  | _ :: _, n :: ns, .cons (.int _) r => by rw [List.map_cons, Rps.ints (ns := ns) r]
theorem Rps.of_ints : ∀ (ns : List Int), Rps C F (ns.map V.int) (ns.map PV.int)
  | [] => .nil
  | n :: ns => .cons (.int n) (Rps.of_ints ns)
end

/-- lists that are changed, one behind the other -/
def Lls (C : Fx) (F H : Hp) : List Addr → List (List PV) → Prop
  | [], [] => True
  | a :: as, l :: ls => (∃ xs, H a = some (.lst xs) ∧ Rps C F xs l) ∧ Lls C F H as ls
  | _, _ => False
theorem Lls.keep {C : Fx} {F F' H H' : Hp} (e : Same F F') : ∀ {as : List Addr} {ls : List (List PV)}, Lls C F H as ls → (∀ b o, b ∈ as → H b = some o → H' b = some o) → Lls C F' H' as ls
  | [], [], _, _ => trivial
  | a :: as, l :: ls, ⟨⟨xs, h1, h2⟩, h⟩, k => ⟨⟨xs, k a _ List.mem_cons_self h1, h2.mono e⟩, Lls.keep e h fun b o hb => k b o (List.mem_cons_of_mem _ hb)⟩
  | [], _ :: _, h, _ => h.elim
  | _ :: _, [], h, _ => h.elim
theorem Lls.there {C : Fx} {F H : Hp} : ∀ {as : List Addr} {ls : List (List PV)}, Lls C F H as ls → ∀ b, b ∈ as → H b ≠ none
  | [], [], _, _, hb => by cases hb
  | a :: as, l :: ls, ⟨⟨xs, h1, h2⟩, h⟩, b, hb => by
    rcases List.mem_cons.mp hb with e | hb
    · subst e; rw [h1]; simp
    · exact Lls.there h b hb
  | [], _ :: _, h, _, _ => h.elim
  | _ :: _, [], h, _, _ => h.elim
/-- where a changeable object stands: p its address, fp all addresses that belong to it -/
def MAt (C : Fx) (F H : Hp) (p : Addr) (fp : List Addr) : MO → Prop
  | .lst l => fp = [p] ∧ ∃ xs, H p = some (.lst xs) ∧ Rps C F xs l
  | .ins c l => fp = [p] ∧ ∃ dx fs, H p = some (.ins (C.cl c) dx fs) ∧ Rpf C F fs l
  | .dct kvs => fp = [p] ∧ ∃ ks : List (Key × V), H p = some (.dK ks) ∧ ks.map (·.1) = kvs.map (·.1) ∧ Rps C F (ks.map (·.2)) (kvs.map (·.2))
  | .lls ls => ∃ as, fp = p :: as ∧ p ∉ as ∧ as.Nodup ∧ H p = some (.lst (as.map V.ref)) ∧ Lls C F H as ls
  | .bag g l t b => ∃ q, fp = [p, q] ∧ p ≠ q ∧ H p = some (.dK [(.inr "great", .ref q), (.inr "left", .int l), (.inr "turn", .int t), (.inr "blend", .int b)]) ∧ H q = some (.lst (g.map V.int))
theorem MAt.mem {C : Fx} {F H : Hp} {p : Addr} {fp : List Addr} {m : MO} (h : MAt C F H p fp m) : p ∈ fp := by
  cases m with
  | lst l => rw [h.1]; exact List.mem_cons_self
  | ins c l => rw [h.1]; exact List.mem_cons_self
  | dct l => rw [h.1]; exact List.mem_cons_self
  | lls l => obtain ⟨q, e, _⟩ := h; rw [e]; exact List.mem_cons_self
  | bag g l t b => obtain ⟨q, e, _⟩ := h; rw [e]; exact List.mem_cons_self
/-- the plain part may grow, the object's own part must stay -/
theorem MAt.keep {C : Fx} {F F' H H' : Hp} {p : Addr} {fp : List Addr} {m : MO} (h : MAt C F H p fp m) (e : Same F F') (k : ∀ b o, b ∈ fp → H b = some o → H' b = some o) : MAt C F' H' p fp m := by
  cases m with
  | lst l =>
    obtain ⟨rfl, xs, h1, h2⟩ := h
    exact ⟨rfl, xs, k _ _ List.mem_cons_self h1, h2.mono e⟩
  | ins c l =>
    obtain ⟨rfl, dx, fs, h1, h2⟩ := h
    exact ⟨rfl, dx, fs, k _ _ List.mem_cons_self h1, h2.mono e⟩
  | dct l =>
    obtain ⟨rfl, ks, h1, h2, h3⟩ := h
    exact ⟨rfl, ks, k _ _ List.mem_cons_self h1, h2, h3.mono e⟩
  | lls l =>
    obtain ⟨as, rfl, n, nd, h1, h2⟩ := h
    exact ⟨as, rfl, n, nd, k _ _ List.mem_cons_self h1, h2.keep e fun b o hb => k b o (List.mem_cons_of_mem _ hb)⟩
  | bag g l t b =>
    obtain ⟨q, rfl, n, h1, h2⟩ := h
    exact ⟨q, rfl, n, k _ _ List.mem_cons_self h1, k _ _ (List.mem_cons_of_mem _ List.mem_cons_self) h2⟩
theorem MAt.there {C : Fx} {F H : Hp} {p : Addr} {fp : List Addr} {m : MO} (h : MAt C F H p fp m) : ∀ b, b ∈ fp → H b ≠ none := by
  intro b hb
  cases m with
  | lst l =>
    obtain ⟨rfl, xs, h1, h2⟩ := h
    rw [List.mem_singleton] at hb
    subst hb; rw [h1]; simp
  | ins c l =>
    obtain ⟨rfl, dx, fs, h1, h2⟩ := h
    rw [List.mem_singleton] at hb
    subst hb; rw [h1]; simp
  | dct l =>
    obtain ⟨rfl, ks, h1, h2, h3⟩ := h
    rw [List.mem_singleton] at hb
    subst hb; rw [h1]; simp
  | lls l =>
    obtain ⟨as, rfl, n, nd, h1, h2⟩ := h
    rcases List.mem_cons.mp hb with e | hb
    · subst e; rw [h1]; simp
    · exact h2.there b hb
  | bag g l t bb =>
    obtain ⟨q, rfl, n, h1, h2⟩ := h
    rcases List.mem_cons.mp hb with e | hb
    · subst e; rw [h1]; simp
    · rw [List.mem_singleton] at hb
      subst hb; rw [h2]; simp

/-- the state is held: F the plain part of the heap, A what the slots own -/
structure OkF (C : Fx) (F : Hp) (A : Nat → List Addr) (H : Hp) (σ : L2.St) (s : Stt) : Prop where
  len : σ.length = s.ro.length
  sub : Same F H
  val : ∀ (i : Nat) (v : PV), s.ro[i]? = some (some (SV.val v)) → ∃ u, σ[i]? = some (some u) ∧ Rp C F u v
  own : ∀ (i : Nat) (m : MO), s.ro[i]? = some (some (SV.own m)) → ∃ p, σ[i]? = some (some (.ref p)) ∧ MAt C F H p (A i) m
  nb : s.mu.length = C.nb
  lent : ∀ (i k : Nat), s.ro[i]? = some (some (SV.bor k)) → σ[i]? = some (some (V.ref (C.be k))) ∧ k < C.nb
  bor : ∀ (k : Nat) (m : MO), s.mu[k]? = some m → MAt C F H (C.be k) (C.Bf k) m
  free : ∀ i b, b ∈ A i → F b = none ∧ H b ≠ none
  dis : ∀ i j b, b ∈ A i → b ∈ A j → i = j
  freeB : ∀ k b, k < C.nb → b ∈ C.Bf k → F b = none ∧ ∀ i, b ∉ A i
  disB : ∀ k j b, k < C.nb → j < C.nb → b ∈ C.Bf k → b ∈ C.Bf j → k = j

def OwnA (A : Nat → List Addr) (b : Addr) : Prop := ∃ i, b ∈ A i
def Bor (C : Fx) (b : Addr) : Prop := ∃ k, k < C.nb ∧ b ∈ C.Bf k

/-- what a piece of code may have done -/
structure Step (C : Fx) (F : Hp) (A : Nat → List Addr) (H F' : Hp) (A' : Nat → List Addr) (H' : Hp) : Prop where
  s1 : Same F F'
  s2 : ∀ b, F' b ≠ none → F b ≠ none ∨ H b = none ∨ OwnA A b
  s3 : ∀ b, OwnA A' b → OwnA A b ∨ H b = none
  s4 : ∀ b o, H b = some o → ¬ OwnA A b → ¬ Bor C b → H' b = some o
  s5 : ∀ b, H b ≠ none → H' b ≠ none
theorem Step.refl {C : Fx} {F H : Hp} {A : Nat → List Addr} : Step C F A H F A H :=
  ⟨fun _ _ h => h, fun _ h => .inl h, fun _ h => .inl h, fun _ _ h _ _ => h, fun _ h => h⟩
theorem Step.trans {C : Fx} {F F1 F2 H H1 H2 : Hp} {A A1 A2 : Nat → List Addr} (a : Step C F A H F1 A1 H1) (b : Step C F1 A1 H1 F2 A2 H2) : Step C F A H F2 A2 H2 where
  s1 := a.s1.trans b.s1
  s2 := fun c h => by
    rcases b.s2 c h with q | q | q
    · exact a.s2 c q
    · refine .inr (.inl ?_)
      cases e : H c with
      | none => rfl
      | some o => exact absurd q (a.s5 c (by rw [e]; simp))
    · exact .inr ((a.s3 c q).symm)
  s3 := fun c h => by
    rcases b.s3 c h with q | q
    · exact a.s3 c q
    · refine .inr ?_
      cases e : H c with
      | none => rfl
      | some o => exact absurd q (a.s5 c (by rw [e]; simp))
  s4 := fun c o h n m => by
    refine b.s4 c o (a.s4 c o h n m) (fun q => ?_) m
    rcases a.s3 c q with z | z
    · exact n z
    · rw [h] at z; cases z
  s5 := fun c h => b.s5 c (a.s5 c h)

/-- what an expression comes to -/
inductive Res (α : Type) where
  | ok (a : α) (s : Stt) | ex (c : Str) (v : PV) (s : Stt) | stuck
def Res.bind {α β : Type} : Res α → (α → Stt → Res β) → Res β
  | .ok a s, f => f a s
  | .ex c v s, _ => .ex c v s
  | .stuck, _ => .stuck
@[simp] theorem Res.bind_ok {α β : Type} (a : α) (s : Stt) (f : α → Stt → Res β) : (Res.ok a s).bind f = f a s := rfl
@[simp] theorem Res.bind_ex {α β : Type} (c : Str) (v : PV) (s : Stt) (f : α → Stt → Res β) : (Res.ex c v s : Res α).bind f = .ex c v s := rfl
@[simp] theorem Res.bind_stuck {α β : Type} (f : α → Stt → Res β) : (Res.stuck : Res α).bind f = .stuck := rfl
def Res.opt {α : Type} (s : Stt) : Option α → Res α
  | some a => .ok a s
  | none => .stuck

@[simp] theorem Res.opt_some {α : Type} (a : α) (s : Stt) : Res.opt s (some a) = .ok a s := rfl
@[simp] theorem Res.opt_none {α : Type} (s : Stt) : Res.opt s (none : Option α) = .stuck := rfl
/-- an exception of a class of the program: its dict holds the value -/
def XAt (C : Fx) (F H : Hp) (d : Addr) (v : PV) : Prop := ∃ u, H d = some (.xd [(("value" : Str), u)]) ∧ Rp C F u v

def Post {α β : Type} (C : Fx) (W : WX) (R : Hp → Hp → β → α → Prop) (F : Hp) (A : Nat → List Addr) (H : Hp) (σ : L2.St) (r : Res α) (Q : β → Hp → Prop) : Prop :=
  match r with
  | .ok a s => ∀ v F' A' H', OkF C F' A' H' σ s → Step C F A H F' A' H' → R F' H' v a → Q v H'
  | .ex c p s => ∀ d F' A' H', OkF C F' A' H' σ s → Step C F A H F' A' H' → XAt C F' H' d p → W (.ref (C.cl c)) (some d) σ H'
  | .stuck => False
theorem Post.after {α β : Type} {C : Fx} {W : WX} {R : Hp → Hp → β → α → Prop} {F F1 H H1 : Hp} {A A1 : Nat → List Addr} {σ : L2.St} {r : Res α} {Q : β → Hp → Prop} (st : Step C F A H F1 A1 H1) (p : Post C W R F A H σ r Q) : Post C W R F1 A1 H1 σ r Q := by
  cases r with
  | ok a s => exact fun v F' A' H' o t q => p v F' A' H' o (st.trans t) q
  | ex c v s => exact fun d F' A' H' o t q => p d F' A' H' o (st.trans t) q
  | stuck => exact p
/-- the first part, then the rest -/
theorem Post.seq {α β γ δ : Type} {C : Fx} {W : WX} {R : Hp → Hp → β → α → Prop} {R2 : Hp → Hp → δ → γ → Prop} {F H : Hp} {A : Nat → List Addr} {σ : L2.St} {r : Res α} {f : α → Stt → Res γ} {Q : δ → Hp → Prop} {Q1 : β → Hp → Prop}
    (p : Post C W R2 F A H σ (r.bind f) Q)
    (k : ∀ a s v F' A' H', r = .ok a s → OkF C F' A' H' σ s → Step C F A H F' A' H' → R F' H' v a → Post C W R2 F' A' H' σ (f a s) Q → Q1 v H') : Post C W R F A H σ r Q1 := by
  cases r with
  | ok a s => exact fun v F' A' H' o t q => k a s v F' A' H' rfl o t q (p.after t)
  | ex c v s => exact p
  | stuck => exact p

abbrev RV (C : Fx) : Hp → Hp → V → PV → Prop := fun F _ v p => Rp C F v p
abbrev RVs (C : Fx) : Hp → Hp → List V → List PV → Prop := fun F _ v p => Rps C F v p
abbrev RB : Hp → Hp → Bool → Bool → Prop := fun _ _ b c => b = c

/-- e has the plain value f, and does to the state what f does -/
structure DV (X : Cx) (C : Fx) (W : WX) (e : Expr) (f : Stt → Res PV) : Prop where
  pr : ∃ te, PE X e te ∧ ∀ F A H σ s Q, OkF C F A H σ s → Post C W (RV C) F A H σ (f s) Q → te σ H Q
structure DA (X : Cx) (C : Fx) (W : WX) (es : List Expr) (f : Stt → Res (List PV)) : Prop where
  pr : ∃ te, PA X es te ∧ ∀ F A H σ s Q, OkF C F A H σ s → Post C W (RVs C) F A H σ (f s) Q → te σ H Q
structure DT (X : Cx) (C : Fx) (W : WX) (e : Expr) (f : Stt → Res Bool) : Prop where
  pr : ∃ te, PT X e te ∧ ∀ F A H σ s Q, OkF C F A H σ s → Post C W RB F A H σ (f s) Q → te σ H Q

/-- nothing was changed -/
theorem Post.now {α β : Type} {C : Fx} {W : WX} {R : Hp → Hp → β → α → Prop} {F H : Hp} {A : Nat → List Addr} {σ : L2.St} {s : Stt} {a : α} {v : β} {Q : β → Hp → Prop} (o : OkF C F A H σ s) (p : Post C W R F A H σ (.ok a s) Q) (r : R F H v a) : Q v H :=
  p v F A H o .refl r

/-- a new plain object -/
theorem OkF.alloc {C : Fx} {F H : Hp} {A : Nat → List Addr} {σ : L2.St} {s : Stt} {p : Addr} {o : HO} (k : OkF C F A H σ s) (hp : H p = none) : OkF C (upd F p o) A (upd H p o) σ s ∧ Step C F A H (upd F p o) A (upd H p o) := by
  have hF : F p = none := k.sub.free hp
  have sF : Same F (upd F p o) := fun b u e => by rw [upd_ne (ne_of_none e hF)]; exact e
  have sH : Same H (upd H p o) := fun b u e => by rw [upd_ne (ne_of_none e hp)]; exact e
  have nA : ∀ i, p ∉ A i := fun i z => (k.free i p z).2 hp
  have nB : ∀ q, q < C.nb → p ∉ C.Bf q := fun q hq z => by
    have hm : q < s.mu.length := by rw [k.nb]; exact hq
    exact (k.bor q s.mu[q] (List.getElem?_eq_getElem hm)).there p z hp
  refine ⟨⟨k.len, fun b u e => ?_, fun i v e => ?_, fun i m e => ?_, k.nb, k.lent, fun q m e => ?_, fun i b hb => ?_, k.dis, fun q b hq hb => ?_, k.disB⟩, ⟨sF, fun b hb => ?_, fun b hb => .inl hb, fun b u e _ _ => sH b u e, fun b hb => ?_⟩⟩
  · by_cases hb : b = p
    · subst hb; rw [upd_same] at e ⊢; exact e
    · rw [upd_ne hb] at e ⊢; exact k.sub b u e
  · obtain ⟨u, h1, h2⟩ := k.val i v e
    exact ⟨u, h1, h2.mono sF⟩
  · obtain ⟨u, h1, h2⟩ := k.own i m e
    exact ⟨u, h1, h2.keep sF fun b o _ => sH b o⟩
  · exact (k.bor q m e).keep sF fun b o _ => sH b o
  · obtain ⟨h1, h2⟩ := k.free i b hb
    have hne : b ≠ p := fun z => nA i (z ▸ hb)
    exact ⟨by rw [upd_ne hne]; exact h1, by rw [upd_ne hne]; exact h2⟩
  · obtain ⟨h1, h2⟩ := k.freeB q b hq hb
    have hne : b ≠ p := fun z => nB q hq (z ▸ hb)
    exact ⟨by rw [upd_ne hne]; exact h1, h2⟩
  · by_cases hbp : b = p
    · subst hbp; exact .inr (.inl hp)
    · rw [upd_ne hbp] at hb; exact .inl hb
  · by_cases hbp : b = p
    · subst hbp; rw [upd_same]; simp
    · rw [upd_ne hbp]; exact hb

/-- an operator by plain values -/
def OpD (C : Fx) (r : R2) (op : PV → PV → Option PV) : Prop :=
  ∀ F A H σ s x y p q z (Q : VK), OkF C F A H σ s → Rp C F x p → Rp C F y q → op p q = some z →
    (∀ v F' A' H', OkF C F' A' H' σ s → Step C F A H F' A' H' → Rp C F' v z → Q v H') → r x y H Q
def UnD (C : Fx) (r : V → Hp → VK → Prop) (op : PV → Option PV) : Prop :=
  ∀ F A H σ s x p z (Q : VK), OkF C F A H σ s → Rp C F x p → op p = some z →
    (∀ v F' A' H', OkF C F' A' H' σ s → Step C F A H F' A' H' → Rp C F' v z → Q v H') → r x H Q
def CallD (C : Fx) (r : List V → Hp → VK → Prop) (op : List PV → Option PV) : Prop :=
  ∀ F A H σ s x p z (Q : VK), OkF C F A H σ s → Rps C F x p → op p = some z →
    (∀ v F' A' H', OkF C F' A' H' σ s → Step C F A H F' A' H' → Rp C F' v z → Q v H') → r x H Q

theorem Post.opt {α β : Type} {C : Fx} {W : WX} {R : Hp → Hp → β → α → Prop} {F H : Hp} {A : Nat → List Addr} {σ : L2.St} {s : Stt} {a : Option α} {Q : β → Hp → Prop} (p : Post C W R F A H σ (Res.opt s a) Q) :
    ∃ z, a = some z ∧ ∀ v F' A' H', OkF C F' A' H' σ s → Step C F A H F' A' H' → R F' H' v z → Q v H' := by
  cases a with
  | none => exact False.elim p
  | some z => exact ⟨z, rfl, p⟩

def eBin (op : PV → PV → Option PV) (fa fb : Stt → Res PV) : Stt → Res PV := fun s => (fa s).bind fun p s1 => (fb s1).bind fun q s2 => Res.opt s2 (op p q)
def eUn (op : PV → Option PV) (fa : Stt → Res PV) : Stt → Res PV := fun s => (fa s).bind fun p s1 => Res.opt s1 (op p)
def eC (p : PV) : Stt → Res PV := fun s => .ok p s
def aNil : Stt → Res (List PV) := fun s => .ok [] s
def aCons (fa : Stt → Res PV) (fb : Stt → Res (List PV)) : Stt → Res (List PV) := fun s => (fa s).bind fun p s1 => (fb s1).bind fun q s2 => .ok (p :: q) s2
def eCallB (op : List PV → Option PV) (fa : Stt → Res (List PV)) : Stt → Res PV := fun s => (fa s).bind fun p s1 => Res.opt s1 (op p)
def eVar (i : Nat) : Stt → Res PV := fun s => match s.ro[i]? with
  | some (some (.val v)) => .ok v s
  | _ => .stuck

section
variable {X : Cx} {C : Fx} {W : WX} {a b : Expr} {pos : Pos} {fa fb : Stt → Res PV}
theorem opPost {r : R2} {op : PV → PV → Option PV} {ta tb : TE} (h : OpD C r op)
    (ha : ∀ F A H σ s Q, OkF C F A H σ s → Post C W (RV C) F A H σ (fa s) Q → ta σ H Q) (hb : ∀ F A H σ s Q, OkF C F A H σ s → Post C W (RV C) F A H σ (fb s) Q → tb σ H Q) :
    ∀ F A H σ s Q, OkF C F A H σ s → Post C W (RV C) F A H σ (eBin op fa fb s) Q → tOp r ta tb σ H Q := by
  intro F A H σ s Q o p
  refine ha F A H σ s _ o (p.seq fun q1 s1 v1 F1 A1 H1 _ o1 st1 r1 p1 => ?_)
  refine hb F1 A1 H1 σ s1 _ o1 (p1.seq fun q2 s2 v2 F2 A2 H2 _ o2 st2 r2 p2 => ?_)
  obtain ⟨z, e, k⟩ := Post.opt p2
  exact h F2 A2 H2 σ s2 v1 v2 q1 q2 z Q o2 (r1.mono st2.s1) r2 e k
theorem dv_op {op : Operator} {r : R2} {f : PV → PV → Option PV} (ho : OpR X (binaryOp op) r) (h : OpD C r f) (ha : DV X C W a fa) (hb : DV X C W b fb) : DV X C W (.BinOp a op b pos) (eBin f fa fb) := by
  obtain ⟨ta, pa, qa⟩ := ha.pr
  obtain ⟨tb, pb, qb⟩ := hb.pr
  exact ⟨_, pe_op ho pa pb, opPost h qa qb⟩
theorem dv_cmp {op : CmpOp} {r : R2} {f : PV → PV → Option PV} (ho : OpR X (compareOp op) r) (h : OpD C r f) (ha : DV X C W a fa) (hb : DV X C W b fb) (hm : behindInMarks op b = false) : DV X C W (.Compare a [op] [b] pos) (eBin f fa fb) := by
  obtain ⟨ta, pa, qa⟩ := ha.pr
  obtain ⟨tb, pb, qb⟩ := hb.pr
  exact ⟨_, pe_cmpR ho pa pb hm, opPost h qa qb⟩
theorem dv_un {op : UnaryOp} {r : V → Hp → VK → Prop} {f : PV → Option PV} (ho : UnR X (unaryOp op) r) (h : UnD C r f) (ha : DV X C W a fa) : DV X C W (.UnaryOp op a pos) (eUn f fa) := by
  obtain ⟨ta, pa, qa⟩ := ha.pr
  refine ⟨_, pe_un ho pa, fun F A H σ s Q o p => ?_⟩
  refine qa F A H σ s _ o (p.seq fun q1 s1 v1 F1 A1 H1 _ o1 st1 r1 p1 => ?_)
  obtain ⟨z, e, k⟩ := Post.opt p1
  exact h F1 A1 H1 σ s1 v1 q1 z Q o1 r1 e k
theorem dv_const {e : Expr} {v : V} {p : PV} (h : PE X e (tC v)) (hr : ∀ F, Rp C F v p) : DV X C W e (eC p) :=
  ⟨_, h, fun F A H σ s Q o q => Post.now o q (hr F)⟩
theorem dv_int {i : Int} {j} : DV X C W (.Constant (.int i) j pos) (eC (.int i)) := dv_const pe_int fun _ => .int i
theorem dv_bl {b : Bool} {j} : DV X C W (.Constant (.bool b) j pos) (eC (.bl b)) := dv_const pe_bl fun _ => .bl b
theorem dv_non {j} : DV X C W (.Constant .none j pos) (eC .non) := dv_const pe_non fun _ => .non
theorem dv_str {x : Str} {j} : DV X C W (.Constant (.str x) j pos) (eC (.str x)) := dv_const pe_str fun _ => .str x
theorem dv_var (i : Nat) {x : Str} (hN : X.N[i]? = some x := by rfl) (hv : Vis X.env.scope x := by first | exact Or.inl rfl | exact Or.inr (Or.inl rfl) | exact Or.inr (Or.inr rfl)) (hd : (x == ("__debug__" : Str)) = false := by decide)
    (hcd : (x == ("__classdict__" : Str)) = false := by decide) : DV X C W (.Name x pos) (eVar i) := by
  refine ⟨_, pe_var hN hv hd hcd, fun F A H σ s Q o p => ?_⟩
  unfold eVar at p
  cases e : s.ro[i]? with
  | none => rw [e] at p; exact False.elim p
  | some z =>
    cases z with
    | none => rw [e] at p; exact False.elim p
    | some w =>
      cases w with
      | own m => rw [e] at p; exact False.elim p
      | bor m => rw [e] at p; exact False.elim p
      | val v =>
        rw [e] at p
        obtain ⟨u, h1, h2⟩ := o.val i v e
        exact ⟨u, h1, Post.now o p h2⟩
theorem da_nil : DA X C W [] aNil := ⟨_, pa_nil, fun F A H σ s Q o p => Post.now o p .nil⟩
theorem da_cons {es : List Expr} {fs : Stt → Res (List PV)} (ha : DV X C W a fa) (hs : DA X C W es fs) (he : starEach (a :: es) X.env = (false, eval a X.env) :: starEach es X.env := by rfl) : DA X C W (a :: es) (aCons fa fs) := by
  obtain ⟨ta, pa, qa⟩ := ha.pr
  obtain ⟨tb, pb, qb⟩ := hs.pr
  refine ⟨_, pa_cons pa pb he, fun F A H σ s Q o p => ?_⟩
  refine qa F A H σ s _ o (p.seq fun q1 s1 v1 F1 A1 H1 _ o1 st1 r1 p1 => ?_)
  refine qb F1 A1 H1 σ s1 _ o1 (p1.seq fun q2 s2 v2 F2 A2 H2 _ o2 st2 r2 p2 => ?_)
  exact Post.now o2 p2 (.cons (r1.mono st2.s1) r2)
theorem dv_callB {x : Str} {p : Pos} {es : List Expr} {id : String} {fs : Stt → Res (List PV)} {r : List V → Hp → VK → Prop} {f : List PV → Option PV} (hc : CallR X (.builtin id) r) (h : CallD C r f) (hg : Gl X x) (hm : X.mg x = none) (hv : bootBuiltins x = some (.builtin id)) (ha : DA X C W (a :: es) fs)
    (hn : x ≠ "__name__" := by decide) (hdb : (x == ("__debug__" : Str)) = false := by decide) (he : starEach (a :: es) X.env = (false, eval a X.env) :: starEach es X.env := by rfl) (hpl : (backTo pos (starEach es X.env)).any (·.1) = false := by rfl) :
    DV X C W (.Call (.Name x p) (a :: es) [] pos) (eCallB f fs) := by
  obtain ⟨ta, pa, qa⟩ := ha.pr
  refine ⟨_, pe_callB hc hg hm hv pa hn hdb he hpl, fun F A H σ s Q o p => ?_⟩
  refine qa F A H σ s _ o (p.seq fun q1 s1 v1 F1 A1 H1 _ o1 st1 r1 p1 => ?_)
  obtain ⟨z, e, k⟩ := Post.opt p1
  exact h F1 A1 H1 σ s1 v1 q1 z Q o1 r1 e k
theorem dv_callTy {x : Str} {p : Pos} {es : List Expr} {T : String} {fs : Stt → Res (List PV)} {r : List V → Hp → VK → Prop} {f : List PV → Option PV} (hc : CallR X (.type T) r) (h : CallD C r f) (hg : Gl X x) (hm : X.mg x = none) (hv : bootBuiltins x = some (.type T)) (ha : DA X C W (a :: es) fs)
    (hn : x ≠ "__name__" := by decide) (hdb : (x == ("__debug__" : Str)) = false := by decide) (he : starEach (a :: es) X.env = (false, eval a X.env) :: starEach es X.env := by rfl) (hpl : (backTo pos (starEach es X.env)).any (·.1) = false := by rfl) :
    DV X C W (.Call (.Name x p) (a :: es) [] pos) (eCallB f fs) := by
  obtain ⟨ta, pa, qa⟩ := ha.pr
  refine ⟨_, pe_callTy hc hg hm hv pa hn hdb he hpl, fun F A H σ s Q o p => ?_⟩
  refine qa F A H σ s _ o (p.seq fun q1 s1 v1 F1 A1 H1 _ o1 st1 r1 p1 => ?_)
  obtain ⟨z, e, k⟩ := Post.opt p1
  exact h F1 A1 H1 σ s1 v1 q1 z Q o1 r1 e k
end
end PL

/-! PL2: statements, targets, loops, a def's promise, its call. -/
namespace PL
open PySem PySem.Spec PyProof.Rows L2

/-- how a statement ends -/
inductive Fl where
  | nx (s : Stt) | rt (v : PV) (s : Stt) | rto (m : MO) (s : Stt) | bk (s : Stt) | ct (s : Stt) | ex (c : Str) (v : PV) (s : Stt) | stuck

/-- a fresh object that nobody else knows, at p -/
def Fresh (C : Fx) (F : Hp) (A : Nat → List Addr) (H F' : Hp) (A' : Nat → List Addr) (H' : Hp) (p : Addr) (m : MO) : Prop :=
  ∃ fp, MAt C F' H' p fp m ∧ ∀ b, b ∈ fp → F' b = none ∧ ¬ OwnA A' b ∧ ¬ Bor C b ∧ (H b = none ∨ OwnA A b)

def PostS (C : Fx) (W : WX) (F : Hp) (A : Nat → List Addr) (H : Hp) (D : Ends) : Fl → Prop
  | .nx s => ∀ σ F' A' H', OkF C F' A' H' σ s → Step C F A H F' A' H' → D.nx σ H'
  | .bk s => ∀ σ F' A' H', OkF C F' A' H' σ s → Step C F A H F' A' H' → D.bk σ H'
  | .ct s => ∀ σ F' A' H', OkF C F' A' H' σ s → Step C F A H F' A' H' → D.ct σ H'
  | .rt v s => ∀ u σ F' A' H', OkF C F' A' H' σ s → Step C F A H F' A' H' → Rp C F' u v → D.rt u H'
  | .rto m s => ∀ p σ F' A' H', OkF C F' A' H' σ s → Step C F A H F' A' H' → Fresh C F A H F' A' H' p m → D.rt (.ref p) H'
  | .ex c v s => ∀ d σ F' A' H', OkF C F' A' H' σ s → Step C F A H F' A' H' → XAt C F' H' d v → W (.ref (C.cl c)) (some d) σ H'
  | .stuck => False
theorem Fresh.after {C : Fx} {F F1 F' H H1 H' : Hp} {A A1 A' : Nat → List Addr} {p : Addr} {m : MO} (st : Step C F A H F1 A1 H1) (f : Fresh C F1 A1 H1 F' A' H' p m) : Fresh C F A H F' A' H' p m := by
  obtain ⟨fp, h, k⟩ := f
  refine ⟨fp, h, fun b hb => ?_⟩
  obtain ⟨k1, k2, k3, k4⟩ := k b hb
  refine ⟨k1, k2, k3, ?_⟩
  rcases k4 with q | q
  · left
    cases e : H b with
    | none => rfl
    | some o => exact absurd q (st.s5 b (by rw [e]; simp))
  · exact (st.s3 b q).symm
theorem PostS.after {C : Fx} {W : WX} {F F1 H H1 : Hp} {A A1 : Nat → List Addr} {D : Ends} {r : Fl} (st : Step C F A H F1 A1 H1) (p : PostS C W F A H D r) : PostS C W F1 A1 H1 D r := by
  cases r with
  | nx s => exact fun σ F' A' H' o t => p σ F' A' H' o (st.trans t)
  | bk s => exact fun σ F' A' H' o t => p σ F' A' H' o (st.trans t)
  | ct s => exact fun σ F' A' H' o t => p σ F' A' H' o (st.trans t)
  | rt v s => exact fun u σ F' A' H' o t q => p u σ F' A' H' o (st.trans t) q
  | rto m s => exact fun u σ F' A' H' o t q => p u σ F' A' H' o (st.trans t) (q.after st)
  | ex c v s => exact fun d σ F' A' H' o t q => p d σ F' A' H' o (st.trans t) q
  | stuck => exact p
/-- other ends -/
theorem PostS.mono {C : Fx} {W : WX} {F H : Hp} {A : Nat → List Addr} {D D' : Ends} {r : Fl} (hn : ∀ s, r = .nx s → PostS C W F A H D (.nx s) → PostS C W F A H D' (.nx s)) (hb : ∀ s, r = .bk s → PostS C W F A H D (.bk s) → PostS C W F A H D' (.bk s)) (hc : ∀ s, r = .ct s → PostS C W F A H D (.ct s) → PostS C W F A H D' (.ct s))
    (hr : D'.rt = D.rt) (p : PostS C W F A H D r) : PostS C W F A H D' r := by
  cases r with
  | nx s => exact hn s rfl p
  | bk s => exact hb s rfl p
  | ct s => exact hc s rfl p
  | rt v s => intro u σ F' A' H' o t q; rw [hr]; exact p u σ F' A' H' o t q
  | rto m s => intro u σ F' A' H' o t q; rw [hr]; exact p u σ F' A' H' o t q
  | ex c v s => exact p
  | stuck => exact p

structure DS (X : Cx) (C : Fx) (W : WX) (st : Stmt) (g : Stt → Fl) : Prop where
  pr : ∃ ts, PS X st ts ∧ ∀ F A H σ s D, OkF C F A H σ s → PostS C W F A H D (g s) → ts D σ H
structure DSs (X : Cx) (C : Fx) (W : WX) (st : List Stmt) (g : Stt → Fl) : Prop where
  pr : ∃ ts, PSs X st ts ∧ ∀ F A H σ s D, OkF C F A H σ s → PostS C W F A H D (g s) → ts D σ H
/-- slots that vs does not tell are as they were -/
def SameOut (vs : Nat → Bool) (σ σ' : L2.St) : Prop := σ'.length = σ.length ∧ ∀ i, vs i = false → σ'[i]? = σ[i]?
theorem SameOut.refl (vs : Nat → Bool) (σ : L2.St) : SameOut vs σ σ := ⟨rfl, fun _ _ => rfl⟩
theorem SameOut.trans {vs : Nat → Bool} {σ σ1 σ2 : L2.St} (a : SameOut vs σ σ1) (b : SameOut vs σ1 σ2) : SameOut vs σ σ2 := ⟨b.1.trans a.1, fun i h => (b.2 i h).trans (a.2 i h)⟩
abbrev anyV : Nat → Bool := fun _ => true
/-- a target: what the store makes of the state -/
structure DG (X : Cx) (C : Fx) (vs : Nat → Bool) (tg : Expr) (a : PV → Stt → Option Stt) : Prop where
  pr : ∃ t, PG X tg t ∧ ∀ F A H σ s x p s' Q, OkF C F A H σ s → Rp C F x p → a p s = some s' → (∀ σ' F' A' H', OkF C F' A' H' σ' s' → Step C F A H F' A' H' → SameOut vs σ σ' → Q σ' H') → t x σ H Q
structure DGs (X : Cx) (C : Fx) (vs : Nat → Bool) (tg : List Expr) (a : List PV → Stt → Option Stt) : Prop where
  pr : ∃ t, PGs X tg t ∧ ∀ F A H σ s x p s' Q, OkF C F A H σ s → Rps C F x p → a p s = some s' → (∀ σ' F' A' H', OkF C F' A' H' σ' s' → Step C F A H F' A' H' → SameOut vs σ σ' → Q σ' H') → t x σ H Q

def setV (i : Nat) (p : PV) (s : Stt) : Stt := ⟨s.ro.set i (some (.val p)), s.mu⟩
def setO (i : Nat) (m : MO) (s : Stt) : Stt := ⟨s.ro.set i (some (.own m)), s.mu⟩
def dropA (A : Nat → List Addr) (i : Nat) : Nat → List Addr := fun j => if j = i then [] else A j
def putA (A : Nat → List Addr) (i : Nat) (fp : List Addr) : Nat → List Addr := fun j => if j = i then fp else A j

section
variable {C : Fx} {F H : Hp} {A : Nat → List Addr} {σ : L2.St} {s : Stt}
theorem OkF.setV {i : Nat} {u : V} {p : PV} (o : OkF C F A H σ s) (r : Rp C F u p) : OkF C F (dropA A i) H (σ.set i (some u)) (setV i p s) ∧ Step C F A H F (dropA A i) H := by
  have sub : ∀ j b, b ∈ dropA A i j → b ∈ A j := fun j b hb => by
    unfold dropA at hb
    split at hb
    · cases hb
    · exact hb
  refine ⟨⟨by simp [PL.setV, o.len], o.sub, fun j v e => ?_, fun j m e => ?_, o.nb, fun j k e => ?_, o.bor, fun j b hb => o.free j b (sub j b hb), fun j l b hj hl => o.dis j l b (sub _ _ hj) (sub _ _ hl), fun k b hk hb => ?_, o.disB⟩, ⟨fun _ _ h => h, fun _ h => .inl h, fun b hb => ?_, fun _ _ h _ _ => h, fun _ h => h⟩⟩
  · unfold PL.setV at e
    by_cases hj : i = j
    · subst hj
      have hl : i < s.ro.length := by
        cases z : (s.ro.set i (some (SV.val p)))[i]? with
        | none => simp only [z] at e; cases e
        | some _ => have := (List.getElem?_eq_some_iff.mp z).1; rwa [List.length_set] at this
      simp only [List.getElem?_set_self hl] at e
      cases e
      exact ⟨u, List.getElem?_set_self (by rw [o.len]; exact hl), r⟩
    · simp only [List.getElem?_set_ne hj] at e ⊢
      exact o.val j v e
  · unfold PL.setV at e
    by_cases hj : i = j
    · subst hj
      have hl : i < s.ro.length := by
        cases z : (s.ro.set i (some (SV.val p)))[i]? with
        | none => simp only [z] at e; cases e
        | some _ => have := (List.getElem?_eq_some_iff.mp z).1; rwa [List.length_set] at this
      simp only [List.getElem?_set_self hl] at e
      cases e
    · simp only [List.getElem?_set_ne hj] at e ⊢
      unfold dropA
      rw [if_neg (Ne.symm hj)]
      exact o.own j m e
  · unfold PL.setV at e
    by_cases hj : i = j
    · subst hj
      have hl : i < s.ro.length := by
        cases z : (s.ro.set i (some (SV.val p)))[i]? with
        | none => simp only [z] at e; cases e
        | some _ => have := (List.getElem?_eq_some_iff.mp z).1; rwa [List.length_set] at this
      simp only [List.getElem?_set_self hl] at e
      cases e
    · simp only [List.getElem?_set_ne hj] at e ⊢
      exact o.lent j k e
  · exact ⟨(o.freeB k b hk hb).1, fun j z => (o.freeB k b hk hb).2 j (sub _ _ z)⟩
  · obtain ⟨j, hj⟩ := hb
    exact .inl ⟨j, sub _ _ hj⟩
/-- a fresh object goes to a slot -/
theorem OkF.setO {F0 H0 : Hp} {A0 : Nat → List Addr} {i : Nat} {p : Addr} {m : MO} (o : OkF C F A H σ s) (st : Step C F0 A0 H0 F A H) (f : Fresh C F0 A0 H0 F A H p m) (hi : i < s.ro.length) : ∃ A', OkF C F A' H (σ.set i (some (.ref p))) (setO i m s) ∧ Step C F0 A0 H0 F A' H := by
  obtain ⟨fp, hm, hf⟩ := f
  have cases' : ∀ j b, b ∈ putA A i fp j → (j = i ∧ b ∈ fp) ∨ (j ≠ i ∧ b ∈ A j) := fun j b hb => by
    unfold putA at hb
    split at hb
    · exact .inl ⟨by assumption, hb⟩
    · exact .inr ⟨by assumption, hb⟩
  refine ⟨putA A i fp, ⟨by simp [PL.setO, o.len], o.sub, fun j v e => ?_, fun j m' e => ?_, o.nb, fun j k e => ?_, o.bor, fun j b hb => ?_, fun j l b hj hl => ?_, fun k b hk hb => ?_, o.disB⟩, ⟨st.s1, st.s2, fun b hb => ?_, st.s4, st.s5⟩⟩
  · unfold PL.setO at e
    by_cases hj : i = j
    · subst hj
      simp only [List.getElem?_set_self hi] at e
      cases e
    · simp only [List.getElem?_set_ne hj] at e ⊢
      exact o.val j v e
  · unfold PL.setO at e
    by_cases hj : i = j
    · subst hj
      simp only [List.getElem?_set_self hi] at e
      cases e
      refine ⟨p, List.getElem?_set_self (by rw [o.len]; exact hi), ?_⟩
      unfold putA
      rw [if_pos rfl]
      exact hm
    · simp only [List.getElem?_set_ne hj] at e ⊢
      unfold putA
      rw [if_neg (Ne.symm hj)]
      exact o.own j m' e
  · unfold PL.setO at e
    by_cases hj : i = j
    · subst hj
      simp only [List.getElem?_set_self hi] at e
      cases e
    · simp only [List.getElem?_set_ne hj] at e ⊢
      exact o.lent j k e
  · rcases cases' j b hb with ⟨_, h⟩ | ⟨_, h⟩
    · exact ⟨(hf b h).1, hm.there b h⟩
    · exact o.free j b h
  · rcases cases' j b hj with ⟨e1, h1⟩ | ⟨e1, h1⟩
    · rcases cases' l b hl with ⟨e2, h2⟩ | ⟨e2, h2⟩
      · rw [e1, e2]
      · exact absurd ⟨l, h2⟩ (hf b h1).2.1
    · rcases cases' l b hl with ⟨e2, h2⟩ | ⟨e2, h2⟩
      · exact absurd ⟨j, h1⟩ (hf b h2).2.1
      · exact o.dis j l b h1 h2
  · refine ⟨(o.freeB k b hk hb).1, fun j z => ?_⟩
    rcases cases' j b z with ⟨_, h⟩ | ⟨_, h⟩
    · exact (hf b h).2.2.1 ⟨k, hk, hb⟩
    · exact (o.freeB k b hk hb).2 j h
  · obtain ⟨j, hj⟩ := hb
    rcases cases' j b hj with ⟨_, h⟩ | ⟨_, h⟩
    · exact (hf b h).2.2.2.symm
    · exact st.s3 b ⟨j, h⟩
/-- the slots forgotten -/
theorem OkF.forget (o : OkF C F A H σ s) : OkF C F (fun _ => []) H [] ⟨[], s.mu⟩ :=
  ⟨rfl, o.sub, fun i v e => by simp at e, fun i m e => by simp at e, o.nb, fun i k e => by simp at e, o.bor, fun _ _ h => absurd h (by simp), fun _ _ _ h _ => absurd h (by simp), fun k b hk hb => ⟨(o.freeB k b hk hb).1, fun _ h => absurd h (by simp)⟩, o.disB⟩
end

/-! ### statements -/
def gSeq (g h : Stt → Fl) : Stt → Fl := fun s => match g s with
  | .nx s1 => h s1
  | .rt v s1 => .rt v s1
  | .rto m s1 => .rto m s1
  | .bk s1 => .bk s1
  | .ct s1 => .ct s1
  | .ex c v s1 => .ex c v s1
  | .stuck => .stuck
def gNop : Stt → Fl := .nx
def Res.fl {α : Type} : Res α → (α → Stt → Fl) → Fl
  | .ok a s, f => f a s
  | .ex c v s, _ => .ex c v s
  | .stuck, _ => .stuck
@[simp] theorem Res.fl_ok {α : Type} (a : α) (s : Stt) (f : α → Stt → Fl) : (Res.ok a s).fl f = f a s := rfl
@[simp] theorem Res.fl_ex {α : Type} (c : Str) (v : PV) (s : Stt) (f : α → Stt → Fl) : (Res.ex c v s : Res α).fl f = .ex c v s := rfl
@[simp] theorem Res.fl_stuck {α : Type} (f : α → Stt → Fl) : (Res.stuck : Res α).fl f = .stuck := rfl
def gOpt : Option Stt → Fl
  | some s => .nx s
  | none => .stuck
def gAsg (fe : Stt → Res PV) (a : PV → Stt → Option Stt) : Stt → Fl := fun s => (fe s).fl fun p s1 => gOpt (a p s1)
def gRet (fe : Stt → Res PV) : Stt → Fl := fun s => (fe s).fl fun p s1 => .rt p s1
def gDrop (fe : Stt → Res PV) : Stt → Fl := fun s => (fe s).fl fun _ s1 => .nx s1
def gIf (ft : Stt → Res Bool) (g h : Stt → Fl) : Stt → Fl := fun s => (ft s).fl fun b s1 => if b = true then g s1 else h s1
def aName (i : Nat) : PV → Stt → Option Stt := fun p s => some (setV i p s)
def asNil : List PV → Stt → Option Stt
  | [], s => some s
  | _ :: _, _ => none
def asCons (a : PV → Stt → Option Stt) (b : List PV → Stt → Option Stt) : List PV → Stt → Option Stt
  | p :: ps, s => (a p s).bind fun s1 => b ps s1
  | [], _ => none
def aTup (n : Nat) (b : List PV → Stt → Option Stt) : PV → Stt → Option Stt
  | .tup l, s => if l.length = n then b l s else none
  | _, _ => none

/-- as Post.seq, into a statement -/
theorem PostS.seq {α β : Type} {C : Fx} {W : WX} {R : Hp → Hp → β → α → Prop} {F H : Hp} {A : Nat → List Addr} {σ : L2.St} {D : Ends} {r : Res α} {f : α → Stt → Fl} {Q1 : β → Hp → Prop}
    (p : PostS C W F A H D (r.fl f))
    (k : ∀ a s v F' A' H', r = .ok a s → OkF C F' A' H' σ s → Step C F A H F' A' H' → R F' H' v a → PostS C W F' A' H' D (f a s) → Q1 v H') : Post C W R F A H σ r Q1 := by
  cases r with
  | ok a s => exact fun v F' A' H' o t q => k a s v F' A' H' rfl o t q (p.after t)
  | ex c v s => exact fun d F' A' H' o t q => p d σ F' A' H' o t q
  | stuck => exact p

section
variable {X : Cx} {C : Fx} {W : WX} {st : Stmt} {sts : List Stmt} {e tg : Expr} {es tgs : List Expr} {pos : Pos} {fe : Stt → Res PV} {g h : Stt → Fl}
theorem dss_nil : DSs X C W [] gNop := ⟨_, pss_nil, fun F A H σ s D o p => p σ F A H o .refl⟩
theorem dss_cons (h1 : DS X C W st g) (h2 : DSs X C W sts h) : DSs X C W (st :: sts) (gSeq g h) := by
  obtain ⟨t1, p1, q1⟩ := h1.pr
  obtain ⟨t2, p2, q2⟩ := h2.pr
  refine ⟨_, pss_cons p1 p2, fun F A H σ s D o p => ?_⟩
  show t1 { D with nx := t2 D } σ H
  refine q1 F A H σ s _ o ?_
  unfold gSeq at p
  cases e : g s with
  | nx s1 =>
    rw [e] at p
    exact fun σ1 F1 A1 H1 o1 st1 => q2 F1 A1 H1 σ1 s1 D o1 (p.after st1)
  | rt v s1 => rw [e] at p; exact p
  | rto v s1 => rw [e] at p; exact p
  | bk s1 => rw [e] at p; exact p
  | ct s1 => rw [e] at p; exact p
  | ex c v s1 => rw [e] at p; exact p
  | stuck => rw [e] at p; exact p
theorem ds_expr (he : DV X C W e fe) (hs : swapsWith e none pos.line X.env = pure false := by rfl) : DS X C W (.Expr e pos) (gDrop fe) := by
  obtain ⟨te, pe, qe⟩ := he.pr
  refine ⟨_, ps_expr pe hs, fun F A H σ s D o p => ?_⟩
  exact qe F A H σ s _ o (PostS.seq p fun a s1 v F1 A1 H1 _ o1 st1 _ p1 => p1 σ F1 A1 H1 o1 .refl)
theorem ds_ret (he : DV X C W e fe) : DS X C W (.Return (some e) pos) (gRet fe) := by
  obtain ⟨te, pe, qe⟩ := he.pr
  refine ⟨_, ps_ret pe, fun F A H σ s D o p => ?_⟩
  exact qe F A H σ s _ o (PostS.seq p fun a s1 v F1 A1 H1 _ o1 st1 r1 p1 => p1 v σ F1 A1 H1 o1 .refl r1)
theorem ds_retN : DS X C W (.Return none pos) (fun s => .rt .non s) := ⟨_, ps_retN, fun F A H σ s D o p => p .non σ F A H o .refl .non⟩
theorem ds_pass : DS X C W (.Pass pos) gNop := ⟨_, ps_pass, fun F A H σ s D o p => p σ F A H o .refl⟩
theorem ds_break : DS X C W (.Break pos) .bk := ⟨_, ps_break, fun F A H σ s D o p => p σ F A H o .refl⟩
theorem ds_continue : DS X C W (.Continue pos) .ct := ⟨_, ps_continue, fun F A H σ s D o p => p σ F A H o .refl⟩
theorem ds_if {c : Expr} {a b : List Stmt} {fc : Stt → Res Bool} (hc : DT X C W c fc) (ha : DSs X C W a g) (hb : DSs X C W b h) : DS X C W (.If c a b pos) (gIf fc g h) := by
  obtain ⟨tc, pc, qc⟩ := hc.pr
  obtain ⟨ta, pa, qa⟩ := ha.pr
  obtain ⟨tb, pb, qb⟩ := hb.pr
  refine ⟨_, ps_if pc pa pb, fun F A H σ s D o p => ?_⟩
  refine qc F A H σ s _ o (PostS.seq p fun a s1 v F1 A1 H1 _ o1 st1 r1 p1 => ?_)
  obtain rfl : v = a := r1
  cases v with
  | true => exact iteT (qa F1 A1 H1 σ s1 D o1 (by simpa using p1))
  | false => exact iteF (qb F1 A1 H1 σ s1 D o1 (by simpa using p1))
/-- a block that is never reached -/
theorem dss_never : DSs X C W sts (fun _ => .stuck) := ⟨_, pss_never, fun F A H σ s D o p => p⟩
theorem ds_never : DS X C W st (fun _ => .stuck) := ⟨_, ps_never, fun F A H σ s D o p => p⟩
theorem dg_name {vs : Nat → Bool} {i : Nat} {x : Str} (hN : X.N.Nodup) (hi : X.N[i]? = some x) (hx : Loc X.env.scope x) (hf : X.fn x = true ∨ X.env.scope.names.lookup x = some .local := by first | exact .inl rfl | exact .inr rfl | assumption) (hv : vs i = true := by rfl) : DG X C vs (.Name x pos) (aName i) := by
  refine ⟨_, pg_name hN hi hx hf, fun F A H σ s x p s' Q o r e k => ?_⟩
  cases e
  obtain ⟨o1, st1⟩ := o.setV (i := i) r
  exact k _ _ _ _ o1 st1 ⟨by simp, fun j hj => List.getElem?_set_ne (fun e => by rw [e, hj] at hv; cases hv)⟩
theorem dgs_nil {vs : Nat → Bool} : DGs X C vs [] asNil := by
  refine ⟨_, pgs_nil, fun F A H σ s x p s' Q o r e k => ?_⟩
  cases r with
  | nil => cases e; exact ⟨rfl, k _ _ _ _ o .refl (.refl _ _)⟩
  | cons _ _ => cases e
theorem dgs_cons {vs : Nat → Bool} {a : PV → Stt → Option Stt} {b : List PV → Stt → Option Stt} (h1 : DG X C vs tg a) (h2 : DGs X C vs tgs b) (hs : (assignEach (tg :: tgs) X.env).map (·.2) = assign tg X.env :: (assignEach tgs X.env).map (·.2) := by rfl) : DGs X C vs (tg :: tgs) (asCons a b) := by
  obtain ⟨t1, p1, q1⟩ := h1.pr
  obtain ⟨t2, p2, q2⟩ := h2.pr
  refine ⟨_, pgs_cons p1 p2 hs, fun F A H σ s x p s' Q o r e k => ?_⟩
  cases r with
  | nil => cases e
  | @cons v us p ps r1 r2 =>
    have e : (a p s).bind (fun s1 => b ps s1) = some s' := e
    cases e1 : a p s with
    | none => rw [e1] at e; cases e
    | some s1 =>
      rw [e1] at e
      exact ⟨v, us, rfl, q1 F A H σ s v p s1 _ o r1 e1 fun σ1 F1 A1 H1 o1 st1 so1 => q2 F1 A1 H1 σ1 s1 us ps s' Q o1 (r2.mono st1.s1) e fun σ2 F2 A2 H2 o2 st2 so2 => k σ2 F2 A2 H2 o2 (st1.trans st2) (so1.trans so2)⟩
theorem dg_tup {vs : Nat → Bool} {k n : Nat} {b : List PV → Stt → Option Stt} (hK : X.K = C.K) (hc : X.calm = true) (h : DGs X C vs es b) (hn : (assignEach es X.env).length = n := by rfl) (hst : (assignEach es X.env).findIdx? (·.1) = none := by rfl) : DG X C vs (.Tuple es k pos) (aTup n b) := by
  obtain ⟨t, p, q⟩ := h.pr
  refine ⟨_, pg_tup (n := n) hc p hn hst, fun F A H σ s x v s' Q o r e kk => ?_⟩
  cases r with
  | @tup a xs l hT hR =>
    have e : (if l.length = n then b l s else none) = some s' := e
    by_cases hl : l.length = n
    · rw [if_pos hl] at e
      exact ⟨a, xs, rfl, by rw [hK]; exact sqT_mono o.sub hT, by rw [hR.length]; exact hl, q F A H σ s xs l s' Q o hR e kk⟩
    · rw [if_neg hl] at e; cases e
  | _ => cases e
theorem ds_asg {a : PV → Stt → Option Stt} (he : DV X C W e fe) (hg : DG X C anyV tg a) (hs : swapsWithSole [tg] e pos.line X.env = pure false := by rfl) (hw : swappedStores [tg] e X.env = pure none := by rfl)
    (h1 : (assignEach [tg] X.env).map (·.2) = [assign tg X.env] := by rfl) : DS X C W (.Assign [tg] e pos) (gAsg fe a) := by
  obtain ⟨te, pe, qe⟩ := he.pr
  obtain ⟨t, p, q⟩ := hg.pr
  refine ⟨_, ps_asg pe p hs hw h1, fun F A H σ s D o pp => ?_⟩
  show te σ H fun x H1 => t x σ H1 D.nx
  refine qe F A H σ s _ o (PostS.seq pp fun a s1 v F1 A1 H1 _ o1 st1 r1 p1 => ?_)
  unfold gOpt at p1
  split at p1
  · rename_i s2 e2
    exact q F1 A1 H1 σ s1 v a s2 _ o1 r1 e2 fun σ2 F2 A2 H2 o2 st2 _ => p1 σ2 F2 A2 H2 o2 st2
  · exact p1.elim
theorem ds_set {i : Nat} {x : Str} {pos' : Pos} (hN : X.N.Nodup) (hi : X.N[i]? = some x) (hx : Loc X.env.scope x) (he : DV X C W e fe) (hs : swapsWith e (some (.Name x pos')) pos.line X.env = pure false := by rfl) (hf : X.fn x = true ∨ X.env.scope.names.lookup x = some .local := by first | exact .inl rfl | exact .inr rfl | assumption) :
    DS X C W (.Assign [.Name x pos'] e pos) (gAsg fe (aName i)) := by
  obtain ⟨te, pe, qe⟩ := he.pr
  refine ⟨_, ps_set hN hi hx pe hs hf, fun F A H σ s D o pp => ?_⟩
  refine qe F A H σ s _ o (PostS.seq pp fun a s1 v F1 A1 H1 _ o1 st1 r1 p1 => ?_)
  obtain ⟨o2, st2⟩ := o1.setV (i := i) r1
  exact p1 _ _ _ _ o2 st2
end
end PL

/-! PL3: loops, parallel stores, a def's promise and its call. -/
namespace PL
open PySem PySem.Spec PyProof.Rows L2

/-! ### while -/
def whileN (t : Stt → Res Bool) (b : Stt → Fl) : Nat → Stt → Fl
  | 0, _ => .stuck
  | n + 1, s => (t s).fl fun c s1 => if c = true then (match b s1 with
      | .nx s2 => whileN t b n s2
      | .ct s2 => whileN t b n s2
      | .bk s2 => .nx s2
      | .rt v s2 => .rt v s2
      | .rto m s2 => .rto m s2
      | .ex c v s2 => .ex c v s2
      | .stuck => .stuck) else .nx s1
theorem whileN_succ (t : Stt → Res Bool) (b : Stt → Fl) (n : Nat) (s : Stt) : whileN t b (n + 1) s = ((t s).fl fun c s1 => if c = true then (match b s1 with
      | .nx s2 => whileN t b n s2
      | .ct s2 => whileN t b n s2
      | .bk s2 => .nx s2
      | .rt v s2 => .rt v s2
      | .rto m s2 => .rto m s2
      | .ex c v s2 => .ex c v s2
      | .stuck => .stuck) else .nx s1) := rfl
theorem whileN_step (t : Stt → Res Bool) (b : Stt → Fl) : ∀ (n : Nat) (s : Stt), whileN t b n s ≠ .stuck → whileN t b (n + 1) s = whileN t b n s
  | 0, s, h => absurd rfl h
  | n + 1, s, h => by
    rw [whileN_succ t b (n + 1), whileN_succ t b n]
    rw [whileN_succ t b n] at h
    cases e : t s with
    | ok c s1 =>
      rw [e] at h
      cases c with
      | false => rfl
      | true =>
        simp only [Res.fl, if_true] at h ⊢
        cases e2 : b s1 with
        | nx s2 => rw [e2] at h; exact whileN_step t b n s2 h
        | ct s2 => rw [e2] at h; exact whileN_step t b n s2 h
        | bk s2 => rfl
        | rt v s2 => rfl
        | rto v s2 => rfl
        | ex c v s2 => rfl
        | stuck => rfl
    | ex c v s1 => rfl
    | stuck => rfl
theorem whileN_more (t : Stt → Res Bool) (b : Stt → Fl) {n : Nat} {s : Stt} (h : whileN t b n s ≠ .stuck) : ∀ k, whileN t b (n + k) s = whileN t b n s
  | 0 => rfl
  | k + 1 => by
    have ih := whileN_more t b h k
    rw [← Nat.add_assoc, whileN_step t b (n + k) s (by rw [ih]; exact h), ih]
theorem whileN_same (t : Stt → Res Bool) (b : Stt → Fl) {n m : Nat} {s : Stt} (h : whileN t b n s ≠ .stuck) (h' : whileN t b m s ≠ .stuck) : whileN t b n s = whileN t b m s := by
  rcases Nat.le_total n m with z | z
  · obtain ⟨k, rfl⟩ := Nat.exists_eq_add_of_le z
    exact (whileN_more t b h k).symm
  · obtain ⟨k, rfl⟩ := Nat.exists_eq_add_of_le z
    exact whileN_more t b h' k
open Classical in
/-- while: the end of the turns, if there is one -/
noncomputable def gWhile (t : Stt → Res Bool) (b : Stt → Fl) (s : Stt) : Fl :=
  if h : ∃ n, whileN t b n s ≠ .stuck then whileN t b (Classical.choose h) s else .stuck
theorem gWhile_eq {t : Stt → Res Bool} {b : Stt → Fl} {n : Nat} {s : Stt} {r : Fl} (h : whileN t b n s = r) (hr : r ≠ .stuck) : gWhile t b s = r := by
  have hn : whileN t b n s ≠ .stuck := by rw [h]; exact hr
  have hx : ∃ n, whileN t b n s ≠ .stuck := ⟨n, hn⟩
  unfold gWhile
  rw [dif_pos hx, whileN_same t b (Classical.choose_spec hx) hn, h]
theorem gWhile_at {t : Stt → Res Bool} {b : Stt → Fl} {s : Stt} (h : gWhile t b s ≠ .stuck) : ∃ n, whileN t b n s = gWhile t b s := by
  unfold gWhile at h ⊢
  split at h
  · rename_i hx
    rw [dif_pos hx]
    exact ⟨_, rfl⟩
  · exact absurd rfl h
/-- the body ends by the next turn, or otherwise -/
def brkD (D : Ends) (N : L2.St → Hp → Prop) : Ends := { D with nx := N, ct := N, bk := D.nx }

section
variable {X : Cx} {C : Fx} {W : WX} {e tg : Expr} {es tgs : List Expr} {pos : Pos} {fe : Stt → Res PV} {g h : Stt → Fl}
theorem ds_while {c : Expr} {body : List Stmt} {fc : Stt → Res Bool} (hp : PassesOwn (model X.prog X.w) X.A X.env X.xe) (hc : DT X C W c fc) (hb : DSs X C W body g) : DS X C W (.While c body [] pos) (gWhile fc g) := by
  obtain ⟨tc, pc, qc⟩ := hc.pr
  obtain ⟨tb, pb, qb⟩ := hb.pr
  refine ⟨_, ps_while hp pc pb, fun F A H σ s D o p => ?_⟩
  have hns : gWhile fc g s ≠ .stuck := fun z => by rw [z] at p; exact p
  obtain ⟨n, hn⟩ := gWhile_at hns
  refine ⟨fun m σ1 H1 => ∃ F1 A1 s1, OkF C F1 A1 H1 σ1 s1 ∧ Step C F A H F1 A1 H1 ∧ whileN fc g m s1 = gWhile fc g s, ⟨n, F, A, s, o, .refl, hn⟩, ?_⟩
  rintro m σ1 H1 ⟨F1, A1, s1, o1, st1, hm⟩
  have p1 : PostS C W F1 A1 H1 D (whileN fc g m s1) := by rw [hm]; exact p.after st1
  cases m with
  | zero => exact absurd hm.symm hns
  | succ m =>
    rw [whileN_succ] at p1 hm
    refine qc F1 A1 H1 σ1 s1 _ o1 (PostS.seq p1 fun a s2 v F2 A2 H2 he o2 st2 r2 p2 => ?_)
    obtain rfl : v = a := r2
    cases v with
    | false =>
      refine iteF ?_
      exact (by simpa using p2 : PostS C W F2 A2 H2 D (.nx s2)) σ1 F2 A2 H2 o2 .refl
    | true =>
      refine iteT ⟨fun σ3 H3 => ∃ m', m' < m + 1 ∧ ∃ F3 A3 s3, OkF C F3 A3 H3 σ3 s3 ∧ Step C F A H F3 A3 H3 ∧ whileN fc g m' s3 = gWhile fc g s, fun σ3 H3 z => z, ?_⟩
      rw [he] at hm
      simp only [Res.fl, if_true] at hm p2
      refine qb F2 A2 H2 σ1 s2 _ o2 ?_
      cases e2 : g s2 with
      | nx s3 =>
        rw [e2] at hm
        exact fun σ3 F3 A3 H3 o3 st3 => ⟨m, Nat.lt_succ_self m, F3, A3, s3, o3, (st1.trans st2).trans st3, hm⟩
      | ct s3 =>
        rw [e2] at hm
        exact fun σ3 F3 A3 H3 o3 st3 => ⟨m, Nat.lt_succ_self m, F3, A3, s3, o3, (st1.trans st2).trans st3, hm⟩
      | bk s3 => rw [e2] at p2; exact p2
      | rt v s3 => rw [e2] at p2; exact p2
      | rto v s3 => rw [e2] at p2; exact p2
      | ex c v s3 => rw [e2] at p2; exact p2
      | stuck => rw [e2] at p2; exact p2
end

/-! ### for -/
def forL (a : PV → Stt → Option Stt) (b : Stt → Fl) : List PV → Stt → Fl
  | [], s => .nx s
  | p :: r, s => match a p s with
    | none => .stuck
    | some s1 => match b s1 with
      | .nx s2 => forL a b r s2
      | .ct s2 => forL a b r s2
      | .bk s2 => .nx s2
      | .rt v s2 => .rt v s2
      | .rto m s2 => .rto m s2
      | .ex c v s2 => .ex c v s2
      | .stuck => .stuck
/-- what a walk gives: the plain values l one by one -/
def RI (C : Fx) : Hp → Hp → It → List PV → Prop := fun F _ J l => ∃ (G : Hp → Prop) (Y : Nat → Hp → V → Hp → Prop), Walk J l.length G Y ∧ (∀ H2, Same F H2 → G H2) ∧
  ∀ i F1 A1 H1 σ s x H2 p, OkF C F1 A1 H1 σ s → Same F F1 → Y i H1 x H2 → l[i]? = some p → ∃ F2, OkF C F2 A1 H2 σ s ∧ Step C F1 A1 H1 F2 A1 H2 ∧ Rp C F2 x p
structure DI (X : Cx) (C : Fx) (W : WX) (tg iter : Expr) (f : Stt → Res (List PV)) : Prop where
  pr : ∃ ti, PI X tg iter ti ∧ ∀ F A H σ s (Q : It → Hp → Prop), OkF C F A H σ s → Post C W (RI C) F A H σ (f s) Q → ti σ H Q
def gFor (fi : Stt → Res (List PV)) (a : PV → Stt → Option Stt) (b : Stt → Fl) : Stt → Fl := fun s => (fi s).fl fun l s1 => forL a b l s1
theorem forL_cons (a : PV → Stt → Option Stt) (b : Stt → Fl) (p : PV) (r : List PV) (s s1 : Stt) (h : a p s = some s1) : forL a b (p :: r) s = match b s1 with
      | .nx s2 => forL a b r s2
      | .ct s2 => forL a b r s2
      | .bk s2 => .nx s2
      | .rt v s2 => .rt v s2
      | .rto m s2 => .rto m s2
      | .ex c v s2 => .ex c v s2
      | .stuck => .stuck := by
  show (match a p s with | none => _ | some s1 => _) = _
  rw [h]
section
variable {X : Cx} {C : Fx} {W : WX} {e tg : Expr} {es tgs : List Expr} {pos : Pos} {fe : Stt → Res PV} {g h : Stt → Fl}
theorem ds_for {iter : Expr} {body : List Stmt} {fi : Stt → Res (List PV)} {a : PV → Stt → Option Stt} (hp : PassesOwn (model X.prog X.w) X.A X.env X.xe) (hc : X.calm = true) (hi : DI X C W tg iter fi) (hg : DG X C anyV tg a) (hb : DSs X C W body g)
    (hs : ∀ x, foldedSetIterable iter X.env x = pure x := by intro _; rfl) : DS X C W (.For tg iter body [] pos) (gFor fi a g) := by
  obtain ⟨ti, pi, qi⟩ := hi.pr
  obtain ⟨tt, pt, qt⟩ := hg.pr
  obtain ⟨tb, pb, qb⟩ := hb.pr
  refine ⟨_, ps_for hp hc pi pt pb hs, fun F A H σ s D o p => ?_⟩
  show ti σ H fun J H1 => _
  refine qi F A H σ s _ o (PostS.seq p fun l s1 J F1 A1 H1 _ o1 st1 r1 p1 => ?_)
  obtain ⟨G, Y, w, hG, hY⟩ := r1
  -- the invariant: the rest of the list is what is left
  refine for_it w (fun i σ2 H2 => ∃ F2 A2 s2, OkF C F2 A2 H2 σ2 s2 ∧ Step C F1 A1 H1 F2 A2 H2 ∧ PostS C W F2 A2 H2 D (forL a g (l.drop i) s2)) ⟨F1, A1, s1, o1, .refl, p1⟩
    (fun i σ2 H2 _ ⟨F2, A2, s2, o2, st2, _⟩ => hG H2 (st2.s1.trans o2.sub)) ?_ ?_
  · rintro i x σ2 H2 H3 hi ⟨F2, A2, s2, o2, st2, p2⟩ y
    have hl : l[i]? = some l[i] := List.getElem?_eq_getElem hi
    obtain ⟨F3, o3, st3, r3⟩ := hY i F2 A2 H2 σ2 s2 x H3 l[i] o2 st2.s1 y hl
    rw [List.drop_eq_getElem_cons hi] at p2
    cases ea : a l[i] s2 with
    | none =>
      have z : forL a g (l[i] :: l.drop (i + 1)) s2 = .stuck := by
        show (match a l[i] s2 with | none => _ | some s1 => _) = _
        rw [ea]
      rw [z] at p2; exact p2.elim
    | some s3 =>
      rw [forL_cons _ _ _ _ _ _ ea] at p2
      refine qt F3 A2 H3 σ2 s2 x l[i] s3 _ o3 r3 ea fun σ4 F4 A4 H4 o4 st4 _ => ?_
      have p4 := p2.after (st3.trans st4)
      have sA := (st2.trans st3).trans st4
      refine qb F4 A4 H4 σ4 s3 _ o4 ?_
      cases e2 : g s3 with
      | nx s5 =>
        rw [e2] at p4
        exact fun σ5 F5 A5 H5 o5 st5 => ⟨F5, A5, s5, o5, sA.trans st5, p4.after st5⟩
      | ct s5 =>
        rw [e2] at p4
        exact fun σ5 F5 A5 H5 o5 st5 => ⟨F5, A5, s5, o5, sA.trans st5, p4.after st5⟩
      | bk s5 => rw [e2] at p4; exact p4
      | rt v s5 => rw [e2] at p4; exact p4
      | rto v s5 => rw [e2] at p4; exact p4
      | ex c v s5 => rw [e2] at p4; exact p4
      | stuck => rw [e2] at p4; exact p4
  · rintro σ2 H2 ⟨F2, A2, s2, o2, st2, p2⟩
    rw [List.drop_of_length_le (Nat.le_refl _)] at p2
    exact p2 σ2 F2 A2 H2 o2 .refl
end

/-! ### what is walked -/
section
variable {X : Cx} {C : Fx} {W : WX} {e tg : Expr} {es tgs : List Expr} {pos : Pos} {fe : Stt → Res PV} {fa : Stt → Res (List PV)}
theorem yat_ok {F : Hp} {xs : List V} {l : List PV} (hr : Rps C F xs l) : ∀ i F1 A1 H1 σ s x H2 p, OkF C F1 A1 H1 σ s → Same F F1 → YAt xs i H1 x H2 → l[i]? = some p → ∃ F2, OkF C F2 A1 H2 σ s ∧ Step C F1 A1 H1 F2 A1 H2 ∧ Rp C F2 x p := by
  rintro i F1 A1 H1 σ s x H2 p o sm ⟨rfl, hx⟩ hp
  obtain ⟨q, e, r⟩ := hr.getV hx
  rw [hp] at e; cases e
  exact ⟨F1, o, .refl, r.mono sm⟩
def iSeq (fe : Stt → Res PV) : Stt → Res (List PV) := fun s => (fe s).bind fun p s1 => match p with
  | .lst l => .ok l s1
  | _ => .stuck
def iTupS (fe : Stt → Res PV) : Stt → Res (List PV) := fun s => (fe s).bind fun p s1 => match p with
  | .tup l => .ok l s1
  | _ => .stuck
def iScr (fe : Stt → Res PV) : Stt → Res (List PV) := fun s => (fe s).bind fun p s1 => match p with
  | .scr l => .ok l s1
  | _ => .stuck
theorem di_list (hK : X.K = C.K) (he : DV X C W e fe) : DI X C W tg e (iSeq fe) := by
  obtain ⟨te, pe, qe⟩ := he.pr
  refine ⟨_, pi_list pe, fun F A H σ s Q o p => ?_⟩
  refine qe F A H σ s _ o (p.seq fun a s1 v F1 A1 H1 _ o1 st1 r1 p1 => ?_)
  cases r1 with
  | @lst b xs l h1 h2 =>
    have hS : ∀ H2, Same F1 H2 → SqL X.K H2 b xs := fun H2 sm => .inl (.inl (sm _ _ h1))
    have hw : Walk (Itl X.K b) l.length (fun H => SqL X.K H b xs) (YAt xs) := by rw [← h2.length]; exact walk_list
    exact ⟨b, rfl, ⟨xs, hS H1 o1.sub⟩, Post.now o1 p1 ⟨_, _, hw, hS, yat_ok h2⟩⟩
  | _ => exact p1.elim
theorem di_scr (hK : X.K = C.K) (he : DV X C W e fe) : DI X C W tg e (iScr fe) := by
  obtain ⟨te, pe, qe⟩ := he.pr
  refine ⟨_, pi_list pe, fun F A H σ s Q o p => ?_⟩
  refine qe F A H σ s _ o (p.seq fun a s1 v F1 A1 H1 _ o1 st1 r1 p1 => ?_)
  cases r1 with
  | @scr b xs l h1 h2 =>
    have hS : ∀ H2, Same F1 H2 → SqL X.K H2 b xs := fun H2 sm => by rw [hK]; exact sm.seq h1
    have hw : Walk (Itl X.K b) l.length (fun H => SqL X.K H b xs) (YAt xs) := by rw [← h2.length]; exact walk_list
    exact ⟨b, rfl, ⟨xs, hS H1 o1.sub⟩, Post.now o1 p1 ⟨_, _, hw, hS, yat_ok h2⟩⟩
  | _ => exact p1.elim
theorem di_tup (hK : X.K = C.K) (he : DV X C W e fe) : DI X C W tg e (iTupS fe) := by
  obtain ⟨te, pe, qe⟩ := he.pr
  refine ⟨_, pi_tup pe, fun F A H σ s Q o p => ?_⟩
  refine qe F A H σ s _ o (p.seq fun a s1 v F1 A1 H1 _ o1 st1 r1 p1 => ?_)
  cases r1 with
  | @tup b xs l h1 h2 =>
    have hS : ∀ H2, Same F1 H2 → SqT X.K H2 b xs := fun H2 sm => by rw [hK]; exact sqT_mono sm h1
    have hw : Walk (Itt X.K b) l.length (fun H => SqT X.K H b xs) (YAt xs) := by rw [← h2.length]; exact walk_tup
    exact ⟨b, rfl, ⟨xs, hS H1 o1.sub⟩, Post.now o1 p1 ⟨_, _, hw, hS, yat_ok h2⟩⟩
  | _ => exact p1.elim
/-- lo, lo + 1, .. -/
def rng (lo : Int) (n : Nat) : List PV := (List.range n).map fun i : Nat => PV.int (lo + i)
theorem rng_length (lo : Int) (n : Nat) : (rng lo n).length = n := by simp [rng]
/-- held back: the kernel shall not count it -/
noncomputable def inR (j : Int) : Bool := Classical.choose (⟨decide (-(2 ^ 62) ≤ j ∧ j < 2 ^ 62), rfl⟩ : ∃ b : Bool, b = decide (-(2 ^ 62) ≤ j ∧ j < 2 ^ 62))
theorem inR_def (j : Int) : inR j = decide (-(2 ^ 62) ≤ j ∧ j < 2 ^ 62) := Classical.choose_spec (⟨decide (-(2 ^ 62) ≤ j ∧ j < 2 ^ 62), rfl⟩ : ∃ b : Bool, b = decide (-(2 ^ 62) ≤ j ∧ j < 2 ^ 62))
theorem inR_iff {j : Int} : inR j = true ↔ -(2 ^ 62) ≤ j ∧ j < 2 ^ 62 := by rw [inR_def, decide_eq_true_eq]
noncomputable def iRange1 (fa : Stt → Res (List PV)) : Stt → Res (List PV) := fun s => (fa s).bind fun p s1 => match p with
  | [.int j] => if inR j = true then .ok (rng 0 j.toNat) s1 else .stuck
  | _ => .stuck
noncomputable def iRange2 (fa : Stt → Res (List PV)) : Stt → Res (List PV) := fun s => (fa s).bind fun p s1 => match p with
  | [.int i, .int j] => if (inR i && inR j) = true then .ok (rng i (j - i).toNat) s1 else .stuck
  | _ => .stuck
theorem rng_ok {F : Hp} (lo : Int) (n : Nat) : ∀ i F1 A1 H1 σ s x H2 p, OkF C F1 A1 H1 σ s → Same F F1 → YFn (fun i => V.int (lo + (i : Nat))) i H1 x H2 → (rng lo n)[i]? = some p → ∃ F2, OkF C F2 A1 H2 σ s ∧ Step C F1 A1 H1 F2 A1 H2 ∧ Rp C F2 x p := by
  rintro i F1 A1 H1 σ s x H2 p o sm ⟨rfl, rfl⟩ hp
  unfold rng at hp
  rw [List.getElem?_map] at hp
  cases e : (List.range n)[i]? with
  | none => rw [e] at hp; cases hp
  | some k =>
    rw [e] at hp
    obtain ⟨h1, h2⟩ := List.getElem?_eq_some_iff.mp e
    rw [List.getElem_range] at h2
    subst h2
    cases hp
    exact ⟨F1, o, .refl, .int _⟩
theorem di_range1 {a : Expr} {p : Pos} (hg : Gl X "range") (hm : X.mg "range" = none) (ha : DA X C W [a] fa) (hs : starEach [a] X.env = [(false, eval a X.env)] := by rfl) : DI X C W tg (.Call (.Name "range" p) [a] [] pos) (iRange1 fa) := by
  obtain ⟨te, pe, qe⟩ := ha.pr
  refine ⟨_, pi_range1 hg hm pe hs, fun F A H σ s Q o p => ?_⟩
  refine qe F A H σ s _ o (p.seq fun a s1 v F1 A1 H1 _ o1 st1 r1 p1 => ?_)
  cases r1 with
  | nil => exact p1.elim
  | cons r r' =>
    cases r' with
    | cons _ _ => cases r <;> exact p1.elim
    | nil =>
      cases r with
      | int j =>
        simp only at p1
        split at p1
        · rename_i hj
          obtain ⟨h1, h2⟩ := inR_iff.mp hj
          refine ⟨j, rfl, h1, h2, Post.now o1 p1 ?_⟩
          refine ⟨_, _, ?_, fun _ _ => trivial, rng_ok 0 j.toNat⟩
          rw [rng_length]
          exact walk_range
        · exact p1.elim
      | _ => exact p1.elim
theorem di_range2 {a b : Expr} {p : Pos} (hg : Gl X "range") (hm : X.mg "range" = none) (ha : DA X C W [a, b] fa) (hs : starEach [a, b] X.env = [(false, eval a X.env), (false, eval b X.env)] := by rfl) (hs2 : starEach [b] X.env = [(false, eval b X.env)] := by rfl) : DI X C W tg (.Call (.Name "range" p) [a, b] [] pos) (iRange2 fa) := by
  obtain ⟨te, pe, qe⟩ := ha.pr
  refine ⟨_, pi_range2 hg hm pe hs hs2, fun F A H σ s Q o p => ?_⟩
  refine qe F A H σ s _ o (p.seq fun a s1 v F1 A1 H1 _ o1 st1 r1 p1 => ?_)
  cases r1 with
  | nil => exact p1.elim
  | cons r r' =>
    cases r' with
    | nil => cases r <;> exact p1.elim
    | cons r2 r3 =>
      cases r3 with
      | cons _ _ => cases r <;> cases r2 <;> exact p1.elim
      | nil =>
        cases r with
        | int i =>
          cases r2 with
          | int j =>
            simp only at p1
            split at p1
            · rename_i hj
              rw [Bool.and_eq_true] at hj
              obtain ⟨h1, h2⟩ := inR_iff.mp hj.1
              obtain ⟨h3, h4⟩ := inR_iff.mp hj.2
              refine ⟨i, j, rfl, ⟨h1, h2, h3, h4⟩, Post.now o1 p1 ?_⟩
              refine ⟨_, _, ?_, fun _ _ => trivial, rng_ok i (j - i).toNat⟩
              rw [rng_length]
              exact walk_range
            · exact p1.elim
          | _ => exact p1.elim
        | _ => cases r2 <;> exact p1.elim
end

/-! ### a def's promise -/
/-- what a def comes to: a value, or a fresh object, and what the lent objects hold then -/
inductive FRes where
  | ok (v : PV) (mu : List MO) | own (m : MO) (mu : List MO) | ex (c : Str) (v : PV) (mu : List MO) | stuck
def noA : Nat → List Addr := fun _ => []
/-- the arguments: plain values, or lent objects -/
inductive RpA (C : Fx) (F : Hp) : List V → List SV → Prop
  | nil : RpA C F [] []
  | val {v : V} {p : PV} {vs : List V} {ps : List SV} : Rp C F v p → RpA C F vs ps → RpA C F (v :: vs) (.val p :: ps)
  | bor {k : Nat} {vs : List V} {ps : List SV} : k < C.nb → RpA C F vs ps → RpA C F (.ref (C.be k) :: vs) (.bor k :: ps)
theorem RpA.length {C : Fx} {F : Hp} {vs : List V} {ps : List SV} (h : RpA C F vs ps) : vs.length = ps.length := by
  induction h with
  | nil => rfl
  | val _ _ ih => simp [ih]
  | bor _ _ ih => simp [ih]
theorem RpA.at {C : Fx} {F : Hp} : ∀ {vs : List V} {ps : List SV} {i : Nat} {p : SV}, RpA C F vs ps → ps[i]? = some p → ∃ v, vs[i]? = some v ∧ ((∃ q, p = .val q ∧ Rp C F v q) ∨ ∃ k, p = .bor k ∧ k < C.nb ∧ v = .ref (C.be k))
  | _, _, _, _, .nil, e => by simp at e
  | _, _, 0, _, .val r _, e => by simp at e; subst e; exact ⟨_, rfl, .inl ⟨_, rfl, r⟩⟩
  | _, _, 0, _, .bor r _, e => by simp at e; subst e; exact ⟨_, rfl, .inr ⟨_, rfl, r, rfl⟩⟩
  | _, _, i + 1, _, .val _ t, e => by
    obtain ⟨v, h1, h2⟩ := RpA.at (i := i) t (by simpa using e)
    exact ⟨v, by simpa using h1, h2⟩
  | _, _, i + 1, _, .bor _ t, e => by
    obtain ⟨v, h1, h2⟩ := RpA.at (i := i) t (by simpa using e)
    exact ⟨v, by simpa using h1, h2⟩
def PostF (C : Fx) (F H : Hp) (Q : VK) (E : XK) : FRes → Prop
  | .ok v mu => ∀ u F' H', OkF C F' noA H' [] ⟨[], mu⟩ → Step C F noA H F' noA H' → Rp C F' u v → Q u H'
  | .own m mu => ∀ p F' H', OkF C F' noA H' [] ⟨[], mu⟩ → Step C F noA H F' noA H' → Fresh C F noA H F' noA H' p m → Q (.ref p) H'
  | .ex c v mu => ∀ d F' H', OkF C F' noA H' [] ⟨[], mu⟩ → Step C F noA H F' noA H' → XAt C F' H' d v → E (.ref (C.cl c)) (some d) H'
  | .stuck => False
/-- the promise: m tells all -/
def spOf (K : PySem.W.Frag) (cl : Str → Addr) (n : Nat) (m : List SV → List MO → FRes) : Sp := fun vs H Q E => vs.length = n ∧ ∃ C F ps mu, C.K = K ∧ C.cl = cl ∧ OkF C F noA H [] ⟨[], mu⟩ ∧ RpA C F vs ps ∧ PostF C F H Q E (m ps mu)
/-- from the body's end -/
def endF : Fl → FRes
  | .nx s => .ok .non s.mu
  | .rt v s => .ok v s.mu
  | .rto m s => .own m s.mu
  | .ex c v s => .ex c v s.mu
  | _ => .stuck
def start0 (n : Nat) (ps : List SV) (mu : List MO) : Stt := ⟨ps.map some ++ List.replicate (n - ps.length) none, mu⟩
def mOf (n : Nat) (g : Stt → Fl) : List SV → List MO → FRes := fun ps mu => endF (g (start0 n ps mu))

theorem okF_start {C : Fx} {F H : Hp} {N : List Str} {vs : List V} {ps : List SV} {mu : List MO} (o : OkF C F noA H [] ⟨[], mu⟩) (r : RpA C F vs ps) : OkF C F noA H (L2.start N vs) (start0 N.length ps mu) := by
  have key : ∀ (i : Nat) (x : SV), (start0 N.length ps mu).ro[i]? = some (some x) → ps[i]? = some x := fun i x e => by
    unfold start0 at e
    simp only at e
    by_cases hi : i < (ps.map some).length
    · rw [List.getElem?_append_left hi, List.getElem?_map] at e
      cases z : ps[i]? with
      | none => rw [z] at e; cases e
      | some y => rw [z] at e; cases e; rfl
    · rw [List.getElem?_append_right (Nat.le_of_not_lt hi), List.getElem?_replicate] at e
      split at e <;> cases e
  have st : ∀ (i : Nat) (v : V), vs[i]? = some v → (L2.start N vs)[i]? = some (some v) := fun i v e => by
    unfold L2.start
    have hi : i < vs.length := (List.getElem?_eq_some_iff.mp e).1
    rw [List.getElem?_append_left (by simpa using hi), List.getElem?_map, e]
    rfl
  refine ⟨?_, o.sub, fun i v e => ?_, fun i m e => ?_, o.nb, fun i k e => ?_, o.bor, fun _ _ h => absurd h (by simp [noA]), fun _ _ _ h _ => absurd h (by simp [noA]), o.freeB, o.disB⟩
  · unfold L2.start start0
    simp only [List.length_append, List.length_map, List.length_replicate, r.length]
  · obtain ⟨u, h1, h2⟩ := r.at (key i _ e)
    rcases h2 with ⟨q, e1, h3⟩ | ⟨k, e1, _⟩
    · cases e1; exact ⟨u, st i u h1, h3⟩
    · cases e1
  · obtain ⟨u, h1, h2⟩ := r.at (key i _ e)
    rcases h2 with ⟨q, e1, h3⟩ | ⟨k, e1, _⟩ <;> cases e1
  · obtain ⟨u, h1, h2⟩ := r.at (key i _ e)
    rcases h2 with ⟨q, e1, h3⟩ | ⟨k', e1, h3, h4⟩
    · cases e1
    · cases e1; subst h4; exact ⟨st i _ h1, h3⟩
theorem Step.forget {C : Fx} {F H F' H' : Hp} {A' : Nat → List Addr} (st : Step C F noA H F' A' H') : Step C F noA H F' noA H' :=
  ⟨st.s1, st.s2, fun b ⟨i, h⟩ => absurd h (by simp [noA]), st.s4, st.s5⟩
theorem postF_end {C : Fx} {W : WX} {F H : Hp} {Q : VK} {E : XK} {r : Fl} (hW : ∀ c d σ H, E c d H → W c d σ H) (p : PostF C F H Q E (endF r)) : PostS C W F noA H { nx := fun _ H' => Q .non H', rt := Q } r := by
  cases r with
  | nx s => exact fun σ F' A' H' o st => p .non F' H' o.forget st.forget .non
  | rt v s => exact fun u σ F' A' H' o st r => p u F' H' o.forget st.forget r
  | rto m s =>
    refine fun q σ F' A' H' o st f => p q F' H' o.forget st.forget ?_
    obtain ⟨fp, h1, h2⟩ := f
    refine ⟨fp, h1, fun b hb => ?_⟩
    obtain ⟨k1, k2, k3, k4⟩ := h2 b hb
    exact ⟨k1, fun ⟨i, z⟩ => absurd z (by simp [noA]), k3, k4⟩
  | ex c v s => exact fun d σ F' A' H' o st x => hW _ _ _ _ (p d F' H' o.forget st.forget x)
  | bk s => exact p.elim
  | ct s => exact p.elim
  | stuck => exact p.elim

section
variable {P : Program} {w : World} {K : PySem.W.Frag} {mg : Str → Option Value} {base : Heap} {cl : Str → Addr}
/-- what a body's derivation may use -/
structure Bd (X : Cx) (W : WX) : Prop where
  calm : X.calm = true
  own : PassesOwn (model X.prog X.w) X.A X.env X.xe
  tk : Takes X W
  hd : X.A.handled = none
  gu : X.A.guards = some []
abbrev FnP (P : Program) (w : World) (K : PySem.W.Frag) (mg : Str → Option Value) (base : Heap) (cl : Str → Addr) (k : Nat) (f : Addr) (fd : FuncData) (ps : List Str) (m : List SV → List MO → FRes) : Prop := FnG P w K mg base (L2.CX P w) k f fd ps (spOf K cl ps.length m)
/-- THE RULE for a def -/
theorem fnp {x qual : Str} {st : Stmt} {f : Addr} {fd : FuncData} {N ps : List Str} {k n : Nat} {g : Stt → Fl} (F : Fun K x qual st f fd) (S : FnScope N ps (defScope st)) (hn : N.length = n)
    (hbody : ∀ (cdv : Value) (A : Around) (outer : List Env) (s : Shared) (H : Hp) (E : XK) (C : Fx), C.K = K → C.cl = cl → Room k (A.deeper (envOfC qual (defScope st) s.heap.objs.size f cdv)) →
      Bd (cxOf (L2.CX P w) P w K mg base N qual (defScope st) f cdv A outer s H E) (fun c d _ H => E c d H) →
      DSs (cxOf (L2.CX P w) P w K mg base N qual (defScope st) f cdv A outer s H E) C (fun c d _ H => E c d H) (defBody st) g) : FnP P w K mg base cl (k + 1) f fd ps (mOf n g) := by
  subst hn
  refine fng_of F S (fun vs H Q E h => h.1) (fun cdv A outer s H vs Q E hr gu h => ?_)
  obtain ⟨hl, C, F0, as, mu, hK, hcl, o, r, p⟩ := h
  have bd : Bd (cxOf (L2.CX P w) P w K mg base N qual (defScope st) f cdv A outer s H E) (fun c d _ H => E c d H) := ⟨rfl, passes_of (K := fun e s'' => L2.CX P w outer H s E e s'') rfl, takes_of rfl rfl rfl rfl, hr.hd, gu⟩
  obtain ⟨t, h1, h2⟩ := (hbody cdv A outer s H E C hK hcl hr bd).pr
  exact ⟨t, h1, h2 F0 noA H _ _ _ (okF_start (N := N) o r) (postF_end (fun _ _ _ _ h => h) p)⟩
end
end PL

/-! PL4: fresh objects, calls of defs. -/
namespace PL
open PySem PySem.Spec PyProof.Rows L2

/-! ### fresh objects -/
def PostO (C : Fx) (W : WX) (F : Hp) (A : Nat → List Addr) (H : Hp) (σ : L2.St) (r : Res MO) (Q : VK) : Prop :=
  match r with
  | .ok m s => ∀ p F' A' H', OkF C F' A' H' σ s → Step C F A H F' A' H' → Fresh C F A H F' A' H' p m → Q (.ref p) H'
  | .ex c v s => ∀ d F' A' H', OkF C F' A' H' σ s → Step C F A H F' A' H' → XAt C F' H' d v → W (.ref (C.cl c)) (some d) σ H'
  | .stuck => False
/-- e comes to a fresh object -/
structure DO (X : Cx) (C : Fx) (W : WX) (e : Expr) (f : Stt → Res MO) : Prop where
  pr : ∃ te, PE X e te ∧ ∀ F A H σ s Q, OkF C F A H σ s → PostO C W F A H σ (f s) Q → te σ H Q
theorem PostO.after {C : Fx} {W : WX} {F F1 H H1 : Hp} {A A1 : Nat → List Addr} {σ : L2.St} {r : Res MO} {Q : VK} (st : Step C F A H F1 A1 H1) (p : PostO C W F A H σ r Q) : PostO C W F1 A1 H1 σ r Q := by
  cases r with
  | ok a s => exact fun v F' A' H' o t q => p v F' A' H' o (st.trans t) (q.after st)
  | ex c v s => exact fun d F' A' H' o t q => p d F' A' H' o (st.trans t) q
  | stuck => exact p
theorem PostO.seq {α β : Type} {C : Fx} {W : WX} {R : Hp → Hp → β → α → Prop} {F H : Hp} {A : Nat → List Addr} {σ : L2.St} {r : Res α} {f : α → Stt → Res MO} {Q : VK} {Q1 : β → Hp → Prop}
    (p : PostO C W F A H σ (r.bind f) Q)
    (k : ∀ a s v F' A' H', r = .ok a s → OkF C F' A' H' σ s → Step C F A H F' A' H' → R F' H' v a → PostO C W F' A' H' σ (f a s) Q → Q1 v H') : Post C W R F A H σ r Q1 := by
  cases r with
  | ok a s => exact fun v F' A' H' o t q => k a s v F' A' H' rfl o t q (p.after t)
  | ex c v s => exact p
  | stuck => exact p
/-- a new object that is not known to the plain part -/
theorem OkF.fresh {C : Fx} {F H : Hp} {A : Nat → List Addr} {σ : L2.St} {s : Stt} {p : Addr} {u : HO} {m : MO} (o : OkF C F A H σ s) (hp : H p = none) (hm : MAt C F (upd H p u) p [p] m) : OkF C F A (upd H p u) σ s ∧ Step C F A H F A (upd H p u) ∧ Fresh C F A H F A (upd H p u) p m := by
  have hF : F p = none := o.sub.free hp
  have sH : Same H (upd H p u) := fun b u e => by rw [upd_ne (ne_of_none e hp)]; exact e
  have nA : ∀ i, p ∉ A i := fun i z => (o.free i p z).2 hp
  have nB : ∀ q, q < C.nb → p ∉ C.Bf q := fun q hq z => by
    have hm : q < s.mu.length := by rw [o.nb]; exact hq
    exact (o.bor q s.mu[q] (List.getElem?_eq_getElem hm)).there p z hp
  refine ⟨⟨o.len, o.sub.trans sH, o.val, fun i m e => ?_, o.nb, o.lent, fun q m e => ?_, fun i b hb => ?_, o.dis, o.freeB, o.disB⟩, ⟨fun _ _ h => h, fun _ h => .inl h, fun _ h => .inl h, fun b x e _ _ => sH b x e, fun b hb => ?_⟩, [p], hm, fun b hb => ?_⟩
  · obtain ⟨q, h1, h2⟩ := o.own i m e
    exact ⟨q, h1, h2.keep (fun _ _ h => h) fun b x _ => sH b x⟩
  · exact (o.bor q m e).keep (fun _ _ h => h) fun b x _ => sH b x
  · obtain ⟨h1, h2⟩ := o.free i b hb
    have hne : b ≠ p := fun z => nA i (z ▸ hb)
    exact ⟨h1, by rw [upd_ne hne]; exact h2⟩
  · by_cases hbp : b = p
    · subst hbp; rw [upd_same]; simp
    · rw [upd_ne hbp]; exact hb
  · rw [List.mem_singleton] at hb
    subst hb
    exact ⟨hF, fun ⟨i, z⟩ => nA i z, fun ⟨q, hq, z⟩ => nB q hq z, .inl hp⟩
/-- a fresh list is a plain value from now on -/
theorem OkF.freeze {C : Fx} {F F' H H' : Hp} {A A' : Nat → List Addr} {σ : L2.St} {s : Stt} {p : Addr} {l : List PV} (o : OkF C F' A' H' σ s) (st : Step C F A H F' A' H') (f : Fresh C F A H F' A' H' p (.lst l)) :
    ∃ F2, OkF C F2 A' H' σ s ∧ Step C F A H F2 A' H' ∧ Rp C F2 (.ref p) (.lst l) := by
  obtain ⟨fp, ⟨rfl, xs, hx, hr⟩, hf⟩ := f
  obtain ⟨k1, k2, k3, k4⟩ := hf p List.mem_cons_self
  have sF : Same F' (upd F' p (.lst xs)) := fun b u e => by rw [upd_ne (ne_of_none e k1)]; exact e
  refine ⟨upd F' p (.lst xs), ⟨o.len, fun b u e => ?_, fun i v e => ?_, fun i m e => ?_, o.nb, o.lent, fun q m e => ?_, fun i b hb => ?_, o.dis, fun q b hq hb => ?_, o.disB⟩, ⟨st.s1.trans sF, fun b hb => ?_, st.s3, st.s4, st.s5⟩, .lst upd_same (hr.mono sF)⟩
  · by_cases hb : b = p
    · subst hb; rw [upd_same] at e; cases e; exact hx
    · rw [upd_ne hb] at e; exact o.sub b u e
  · obtain ⟨u, h1, h2⟩ := o.val i v e
    exact ⟨u, h1, h2.mono sF⟩
  · obtain ⟨q, h1, h2⟩ := o.own i m e
    exact ⟨q, h1, h2.keep sF fun b x _ h => h⟩
  · exact (o.bor q m e).keep sF fun b x _ h => h
  · obtain ⟨h1, h2⟩ := o.free i b hb
    have hne : b ≠ p := fun z => k2 ⟨i, z ▸ hb⟩
    exact ⟨by rw [upd_ne hne]; exact h1, h2⟩
  · obtain ⟨h1, h2⟩ := o.freeB q b hq hb
    have hne : b ≠ p := fun z => k3 ⟨q, hq, z ▸ hb⟩
    exact ⟨by rw [upd_ne hne]; exact h1, h2⟩
  · by_cases hbp : b = p
    · subst hbp
      rcases k4 with z | z
      · exact .inr (.inl z)
      · exact .inr (.inr z)
    · rw [upd_ne hbp] at hb; exact st.s2 b hb
def frz (f : Stt → Res MO) : Stt → Res PV := fun s => (f s).bind fun m s1 => match m with
  | .lst l => .ok (.lst l) s1
  | _ => .stuck
section
variable {X : Cx} {C : Fx} {W : WX} {e tg : Expr} {es : List Expr} {pos : Pos} {fe : Stt → Res PV} {fo : Stt → Res MO} {fa : Stt → Res (List PV)} {g h : Stt → Fl}
theorem dv_frz (he : DO X C W e fo) : DV X C W e (frz fo) := by
  obtain ⟨te, pe, qe⟩ := he.pr
  refine ⟨te, pe, fun F A H σ s Q o p => qe F A H σ s Q o ?_⟩
  unfold frz at p
  cases hr : fo s with
  | ok m s1 =>
    rw [hr] at p
    cases m with
    | lst l =>
      intro q F' A' H' o1 st1 fr
      obtain ⟨F2, o2, st2, r2⟩ := o1.freeze st1 fr
      exact p _ F2 A' H' o2 st2 r2
    | _ => exact p.elim
  | ex c v s1 => rw [hr] at p; exact p
  | stuck => rw [hr] at p; exact p
def gAsgO (i : Nat) (fo : Stt → Res MO) : Stt → Fl := fun s => (fo s).fl fun m s1 => if i < s1.ro.length then .nx (setO i m s1) else .stuck
theorem ds_setO {i : Nat} {x : Str} {pos' : Pos} (hN : X.N.Nodup) (hi : X.N[i]? = some x) (hx : Loc X.env.scope x) (he : DO X C W e fo) (hs : swapsWith e (some (.Name x pos')) pos.line X.env = pure false := by rfl) (hf : X.fn x = true ∨ X.env.scope.names.lookup x = some .local := by first | exact .inl rfl | exact .inr rfl | assumption) :
    DS X C W (.Assign [.Name x pos'] e pos) (gAsgO i fo) := by
  obtain ⟨te, pe, qe⟩ := he.pr
  refine ⟨_, ps_set hN hi hx pe hs hf, fun F A H σ s D o pp => ?_⟩
  refine qe F A H σ s _ o ?_
  unfold gAsgO at pp
  cases hr : fo s with
  | ok m s1 =>
    rw [hr] at pp
    intro q F' A' H' o1 st1 fr
    simp only [Res.fl] at pp
    split at pp
    · rename_i hl
      obtain ⟨A2, o2, st2⟩ := o1.setO st1 fr hl
      exact pp _ F' A2 H' o2 st2
    · exact pp.elim
  | ex c v s1 => rw [hr] at pp; exact fun d F' A' H' => pp d σ F' A' H'
  | stuck => rw [hr] at pp; exact pp
def gRetO (fo : Stt → Res MO) : Stt → Fl := fun s => (fo s).fl fun m s1 => .rto m s1
theorem ds_retO (he : DO X C W e fo) : DS X C W (.Return (some e) pos) (gRetO fo) := by
  obtain ⟨te, pe, qe⟩ := he.pr
  refine ⟨_, ps_ret pe, fun F A H σ s D o pp => ?_⟩
  refine qe F A H σ s _ o ?_
  unfold gRetO at pp
  cases hr : fo s with
  | ok m s1 =>
    rw [hr] at pp
    exact fun q F' A' H' o1 st1 fr => pp q σ F' A' H' o1 st1 fr
  | ex c v s1 => rw [hr] at pp; exact fun d F' A' H' => pp d σ F' A' H'
  | stuck => rw [hr] at pp; exact pp
/-- displays -/
def eTup (fa : Stt → Res (List PV)) : Stt → Res PV := fun s => (fa s).bind fun l s1 => if l.length ≤ 16777216 then .ok (.tup l) s1 else .stuck
def oLst (fa : Stt → Res (List PV)) : Stt → Res MO := fun s => (fa s).bind fun l s1 => if l.length ≤ 16777216 then .ok (.lst l) s1 else .stuck
theorem line_le {n : Nat} (h : n ≤ 16777216) : n ≤ sizeLine := by rw [sizeLine_eq]; exact h
theorem dv_tup {x1} (ha : DA X C W es fa) : DV X C W (.Tuple es x1 pos) (eTup fa) := by
  obtain ⟨ta, pa, qa⟩ := ha.pr
  refine ⟨_, pe_tup pa, fun F A H σ s Q o p => ?_⟩
  refine qa F A H σ s _ o (p.seq fun l s1 xs F1 A1 H1 _ o1 st1 r1 p1 => ?_)
  split at p1
  · rename_i hl
    refine ⟨by rw [r1.length]; exact line_le hl, fun q hq => ?_⟩
    obtain ⟨o2, st2⟩ := o1.alloc (o := .tup xs) hq
    exact p1 _ _ _ _ o2 st2 (.tup (.of upd_same) (r1.mono st2.s1))
  · exact p1.elim
theorem do_lst (ha : DA X C W es fa) : DO X C W (.List es pos) (oLst fa) := by
  obtain ⟨ta, pa, qa⟩ := ha.pr
  refine ⟨_, pe_lst pa, fun F A H σ s Q o p => ?_⟩
  refine qa F A H σ s _ o (PostO.seq p fun l s1 xs F1 A1 H1 _ o1 st1 r1 p1 => ?_)
  split at p1
  · rename_i hl
    refine ⟨by rw [r1.length]; exact line_le hl, fun q hq => ?_⟩
    obtain ⟨o2, st2, f2⟩ := o1.fresh (u := .lst xs) (m := .lst l) hq ⟨rfl, xs, upd_same, r1⟩
    exact p1 q _ _ _ o2 st2 f2
  · exact p1.elim
end

/-! ### calls of defs -/
inductive AV where
  | pv (p : PV) | sl (i : Nat)
inductive RAs (C : Fx) (σ : L2.St) (F : Hp) : List V → List AV → Prop
  | nil : RAs C σ F [] []
  | pv {v : V} {p : PV} {vs : List V} {ps : List AV} : Rp C F v p → RAs C σ F vs ps → RAs C σ F (v :: vs) (.pv p :: ps)
  | sl {v : V} {i : Nat} {vs : List V} {ps : List AV} : σ[i]? = some (some v) → RAs C σ F vs ps → RAs C σ F (v :: vs) (.sl i :: ps)
theorem RAs.mono {C : Fx} {σ : L2.St} {F F' : Hp} (e : Same F F') {vs : List V} {ps : List AV} (h : RAs C σ F vs ps) : RAs C σ F' vs ps := by
  induction h with
  | nil => exact .nil
  | pv r _ ih => exact .pv (r.mono e) ih
  | sl r _ ih => exact .sl r ih
structure DL (X : Cx) (C : Fx) (W : WX) (es : List Expr) (f : Stt → Res (List AV)) : Prop where
  pr : ∃ te, PA X es te ∧ ∀ F A H σ s Q, OkF C F A H σ s → Post C W (fun F _ vs ps => RAs C σ F vs ps) F A H σ (f s) Q → te σ H Q
def lNil : Stt → Res (List AV) := fun s => .ok [] s
def lPv (fa : Stt → Res PV) (fb : Stt → Res (List AV)) : Stt → Res (List AV) := fun s => (fa s).bind fun p s1 => (fb s1).bind fun q s2 => .ok (.pv p :: q) s2
def lSl (i : Nat) (fb : Stt → Res (List AV)) : Stt → Res (List AV) := fun s => match s.ro[i]? with
  | some (some (.own _)) => (fb s).bind fun q s2 => .ok (.sl i :: q) s2
  | some (some (.bor _)) => (fb s).bind fun q s2 => .ok (.sl i :: q) s2
  | _ => .stuck

/-- an object's name: the one that slot i owns, the k-th that was lent -/
inductive MKey where
  | inl (i : Nat) | inr (k : Nat)
  deriving DecidableEq
def keyOf (s : Stt) (i : Nat) : Option MKey := match s.ro[i]? with
  | some (some (.own _)) => some (.inl i)
  | some (some (.bor k)) => some (.inr k)
  | _ => none
def getK (s : Stt) : MKey → Option MO
  | .inl i => match s.ro[i]? with
    | some (some (.own m)) => some m
    | _ => none
  | .inr k => s.mu[k]?
def setK (s : Stt) : MKey → MO → Stt
  | .inl i, m => ⟨s.ro.set i (some (.own m)), s.mu⟩
  | .inr k, m => ⟨s.ro, s.mu.set k m⟩
def lowerA (s : Stt) : List AV → List MKey → Option (List SV × List MKey)
  | [], ks => some ([], ks)
  | .pv p :: r, ks => match lowerA s r ks with
    | some (ps, ks') => some (.val p :: ps, ks')
    | none => none
  | .sl i :: r, ks => match keyOf s i with
    | none => none
    | some k => match lowerA s r (ks ++ [k]) with
      | some (ps, ks') => some (.bor ks.length :: ps, ks')
      | none => none
def getAll (s : Stt) : List MKey → Option (List MO)
  | [] => some []
  | k :: r => match getK s k, getAll s r with
    | some m, some ms => some (m :: ms)
    | _, _ => none
def setAll : Stt → List MKey → List MO → Stt
  | s, k :: r, m :: ms => setAll (setK s k m) r ms
  | s, _, _ => s
def distinct : List MKey → Bool
  | [] => true
  | k :: r => decide (k ∉ r) && distinct r
def eCall (m : List SV → List MO → FRes) (fa : Stt → Res (List AV)) : Stt → Res PV := fun s => (fa s).bind fun avs s1 => match lowerA s1 avs [] with
  | none => .stuck
  | some (ps, ks) => if distinct ks = true then match getAll s1 ks with
    | none => .stuck
    | some ms => match m ps ms with
      | .ok v ms' => .ok v (setAll s1 ks ms')
      | .own (.lst l) ms' => .ok (.lst l) (setAll s1 ks ms')
      | .own _ _ => .stuck
      | .ex c v ms' => .ex c v (setAll s1 ks ms')
      | .stuck => .stuck
    else .stuck
def oCall (m : List SV → List MO → FRes) (fa : Stt → Res (List AV)) : Stt → Res MO := fun s => (fa s).bind fun avs s1 => match lowerA s1 avs [] with
  | none => .stuck
  | some (ps, ks) => if distinct ks = true then match getAll s1 ks with
    | none => .stuck
    | some ms => match m ps ms with
      | .ok _ _ => .stuck
      | .own o ms' => .ok o (setAll s1 ks ms')
      | .ex c v ms' => .ex c v (setAll s1 ks ms')
      | .stuck => .stuck
    else .stuck
end PL

/-! PL5: a call of a def: what the callee sees, what the caller has then. -/
namespace PL
open PySem PySem.Spec PyProof.Rows L2
mutual
theorem Rp.cg {C D : Fx} {F : Hp} (hk : D.K = C.K) (hc : D.cl = C.cl) : ∀ {v : V} {p : PV}, Rp C F v p → Rp D F v p
  | _, _, .non => .non
  | _, _, .bl b => .bl b
  | _, _, .int i => .int i
  | _, _, .str x => .str x
  | _, _, .tup h r => .tup (by rw [hk]; exact h) (Rps.cg hk hc r)
  | _, _, .lst h r => .lst h (Rps.cg hk hc r)
  | _, _, .scr h r => .scr (by rw [hk]; exact h) (Rps.cg hk hc r)
  | _, _, .ins h r => .ins (by rw [hc]; exact h) (Rpf.cg hk hc r)
theorem Rps.cg {C D : Fx} {F : Hp} (hk : D.K = C.K) (hc : D.cl = C.cl) : ∀ {v : List V} {p : List PV}, Rps C F v p → Rps D F v p
  | _, _, .nil => .nil
  | _, _, .cons h r => .cons (Rp.cg hk hc h) (Rps.cg hk hc r)
theorem Rpf.cg {C D : Fx} {F : Hp} (hk : D.K = C.K) (hc : D.cl = C.cl) : ∀ {v : List (Str × V)} {p : List (Str × PV)}, Rpf C F v p → Rpf D F v p
  | _, _, .nil => .nil
  | _, _, .cons h r => .cons (Rp.cg hk hc h) (Rpf.cg hk hc r)
end
theorem Lls.cg {C D : Fx} {F H : Hp} (hk : D.K = C.K) (hc : D.cl = C.cl) : ∀ {as : List Addr} {ls : List (List PV)}, Lls C F H as ls → Lls D F H as ls
  | [], [], _ => trivial
  | a :: as, l :: ls, ⟨⟨xs, h1, h2⟩, h⟩ => ⟨⟨xs, h1, h2.cg hk hc⟩, Lls.cg hk hc h⟩
  | [], _ :: _, h => h.elim
  | _ :: _, [], h => h.elim
theorem MAt.cg {C D : Fx} {F H : Hp} {p : Addr} {fp : List Addr} {m : MO} (hk : D.K = C.K) (hc : D.cl = C.cl) (h : MAt C F H p fp m) : MAt D F H p fp m := by
  cases m with
  | lst l => obtain ⟨h1, xs, h2, h3⟩ := h; exact ⟨h1, xs, h2, h3.cg hk hc⟩
  | ins c l => obtain ⟨h1, dx, fs, h2, h3⟩ := h; exact ⟨h1, dx, fs, by rw [hc]; exact h2, h3.cg hk hc⟩
  | dct l => obtain ⟨h1, ks, h2, h3, h4⟩ := h; exact ⟨h1, ks, h2, h3, h4.cg hk hc⟩
  | lls l => obtain ⟨as, h1, h2, h3, h4, h5⟩ := h; exact ⟨as, h1, h2, h3, h4, h5.cg hk hc⟩
  | bag g l t b => exact h

def adr (σ : L2.St) (C : Fx) : MKey → Addr
  | .inl i => match σ[i]? with
    | some (some (.ref p)) => p
    | _ => 0
  | .inr k => C.be k
def fpr (A : Nat → List Addr) (C : Fx) : MKey → List Addr
  | .inl i => A i
  | .inr k => C.Bf k
def subC (σ : L2.St) (A : Nat → List Addr) (C : Fx) (ks : List MKey) : Fx := ⟨C.K, C.cl, ks.length, fun j => adr σ C (ks.getD j (.inl 0)), fun j => fpr A C (ks.getD j (.inl 0))⟩

theorem setAll_ro : ∀ (ks : List MKey) (ms : List MO) (s : Stt), ks.length = ms.length → ∀ (i : Nat) x, (setAll s ks ms).ro[i]? = some x → (∃ (j : Nat) (m : MO), ks[j]? = some (MKey.inl i) ∧ ms[j]? = some m ∧ x = some (SV.own m)) ∨ (s.ro[i]? = some x ∧ MKey.inl i ∉ ks)
  | [], [], s, _, i, x, h => .inr ⟨h, by simp⟩
  | [], _ :: _, s, hl, i, x, h => by simp at hl
  | _ :: _, [], s, hl, i, x, h => by simp at hl
  | k :: r, m :: ms, s, hl, i, x, h => by
    rcases setAll_ro r ms (setK s k m) (by simpa using hl) i x h with ⟨j, m', h1, h2, h3⟩ | ⟨h1, h2⟩
    · exact .inl ⟨j + 1, m', by simpa using h1, by simpa using h2, h3⟩
    · cases k with
      | inr k =>
        refine .inr ⟨h1, ?_⟩
        intro z
        rcases List.mem_cons.mp z with z | z
        · cases z
        · exact h2 z
      | inl i0 =>
        by_cases hi : i0 = i
        · subst hi
          refine .inl ⟨0, m, rfl, rfl, ?_⟩
          have h1 : (s.ro.set i0 (some (.own m)))[i0]? = some x := h1
          have hlt : i0 < s.ro.length := by
            have := (List.getElem?_eq_some_iff.mp h1).1
            rwa [List.length_set] at this
          rw [List.getElem?_set_self hlt] at h1
          cases h1; rfl
        · have h1 : (s.ro.set i0 (some (.own m)))[i]? = some x := h1
          rw [List.getElem?_set_ne hi] at h1
          refine .inr ⟨h1, fun z => ?_⟩
          rcases List.mem_cons.mp z with z | z
          · cases z; exact hi rfl
          · exact h2 z
theorem setAll_mu : ∀ (ks : List MKey) (ms : List MO) (s : Stt), ks.length = ms.length → ∀ (i : Nat) x, (setAll s ks ms).mu[i]? = some x → (∃ (j : Nat), ks[j]? = some (MKey.inr i) ∧ ms[j]? = some x) ∨ (s.mu[i]? = some x ∧ MKey.inr i ∉ ks)
  | [], [], s, _, i, x, h => .inr ⟨h, by simp⟩
  | [], _ :: _, s, hl, i, x, h => by simp at hl
  | _ :: _, [], s, hl, i, x, h => by simp at hl
  | k :: r, m :: ms, s, hl, i, x, h => by
    rcases setAll_mu r ms (setK s k m) (by simpa using hl) i x h with ⟨j, h1, h2⟩ | ⟨h1, h2⟩
    · exact .inl ⟨j + 1, by simpa using h1, by simpa using h2⟩
    · cases k with
      | inl k =>
        refine .inr ⟨h1, ?_⟩
        intro z
        rcases List.mem_cons.mp z with z | z
        · cases z
        · exact h2 z
      | inr i0 =>
        by_cases hi : i0 = i
        · subst hi
          have h1 : (s.mu.set i0 m)[i0]? = some x := h1
          have hlt : i0 < s.mu.length := by
            have := (List.getElem?_eq_some_iff.mp h1).1
            rwa [List.length_set] at this
          rw [List.getElem?_set_self hlt] at h1
          cases h1
          exact .inl ⟨0, rfl, rfl⟩
        · have h1 : (s.mu.set i0 m)[i]? = some x := h1
          rw [List.getElem?_set_ne hi] at h1
          refine .inr ⟨h1, fun z => ?_⟩
          rcases List.mem_cons.mp z with z | z
          · cases z; exact hi rfl
          · exact h2 z
theorem setAll_lens : ∀ (ks : List MKey) (ms : List MO) (s : Stt), (setAll s ks ms).ro.length = s.ro.length ∧ (setAll s ks ms).mu.length = s.mu.length
  | [], [], s => ⟨rfl, rfl⟩
  | [], _ :: _, s => ⟨rfl, rfl⟩
  | _ :: _, [], s => ⟨rfl, rfl⟩
  | k :: r, m :: ms, s => by
    obtain ⟨h1, h2⟩ := setAll_lens r ms (setK s k m)
    have e1 : (setK s k m).ro.length = s.ro.length := by cases k <;> simp [setK]
    have e2 : (setK s k m).mu.length = s.mu.length := by cases k <;> simp [setK]
    exact ⟨h1.trans e1, h2.trans e2⟩
theorem getAll_at : ∀ {ks : List MKey} {ms : List MO} {s : Stt}, getAll s ks = some ms → ks.length = ms.length ∧ ∀ (j : Nat) (k : MKey), ks[j]? = some k → ∃ m, ms[j]? = some m ∧ getK s k = some m
  | [], ms, s, h => by
    cases h
    exact ⟨rfl, fun j k e => by simp at e⟩
  | k :: r, ms, s, h => by
    unfold getAll at h
    split at h
    · rename_i m ms' e1 e2
      cases h
      obtain ⟨h1, h2⟩ := getAll_at e2
      refine ⟨by simp [h1], fun j k' e => ?_⟩
      cases j with
      | zero => simp at e; subst e; exact ⟨m, rfl, e1⟩
      | succ j => exact h2 j k' (by simpa using e)
    · cases h
theorem distinct_ne : ∀ {ks : List MKey}, distinct ks = true → ∀ (i j : Nat) (k : MKey), ks[i]? = some k → ks[j]? = some k → i = j
  | [], _, i, j, k, h, _ => by simp at h
  | k0 :: r, hd, i, j, k, h1, h2 => by
    unfold distinct at hd
    rw [Bool.and_eq_true] at hd
    have nk : k0 ∉ r := of_decide_eq_true hd.1
    cases i with
    | zero =>
      cases j with
      | zero => rfl
      | succ j =>
        simp at h1 h2
        subst h1
        exact absurd (List.mem_of_getElem? h2) nk
    | succ i =>
      cases j with
      | zero =>
        simp at h1 h2
        subst h2
        exact absurd (List.mem_of_getElem? h1) nk
      | succ j => rw [distinct_ne hd.2 i j k (by simpa using h1) (by simpa using h2)]
section
variable {C : Fx} {F H : Hp} {A : Nat → List Addr} {σ : L2.St} {s : Stt}
/-- a valid key's object -/
theorem key_at (o : OkF C F A H σ s) {k : MKey} {m : MO} (h : getK s k = some m) : MAt C F H (adr σ C k) (fpr A C k) m ∧ (∀ b, b ∈ fpr A C k → F b = none ∧ H b ≠ none) ∧ (∀ i, k = .inl i → σ[i]? = some (some (.ref (adr σ C k)))) ∧ (∀ q, k = .inr q → q < C.nb) := by
  cases k with
  | inl i =>
    unfold getK at h
    simp only at h
    split at h
    · rename_i m' e
      cases h
      obtain ⟨p, h1, h2⟩ := o.own i m e
      have ea : adr σ C (.inl i) = p := by
        show (match σ[i]? with | some (some (.ref p)) => p | _ => 0) = p
        rw [h1]
      rw [ea]
      exact ⟨h2, fun b hb => o.free i b hb, fun j e => by cases e; exact h1, fun q e => by cases e⟩
    · cases h
  | inr k =>
    have h1 := o.bor k m h
    have hk : k < C.nb := by rw [← o.nb]; exact (List.getElem?_eq_some_iff.mp h).1
    refine ⟨h1, fun b hb => ⟨(o.freeB k b hk hb).1, h1.there b hb⟩, fun j e => ?_, fun q e => ?_⟩
    · cases e
    · cases e; exact hk
theorem key_dis (o : OkF C F A H σ s) {k k' : MKey} (h : ∀ q, k = .inr q → q < C.nb) (h' : ∀ q, k' = .inr q → q < C.nb) {b : Addr} (hb : b ∈ fpr A C k) (hb' : b ∈ fpr A C k') : k = k' := by
  cases k with
  | inl i =>
    cases k' with
    | inl j => rw [o.dis i j b hb hb']
    | inr q => exact absurd hb ((o.freeB q b (h' q rfl) hb').2 i)
  | inr q =>
    cases k' with
    | inl j => exact absurd hb' ((o.freeB q b (h q rfl) hb).2 j)
    | inr q' => rw [o.disB q q' b (h q rfl) (h' q' rfl) hb hb']
theorem lower_ext : ∀ {avs : List AV} {ks ks' : List MKey} {ps : List SV}, lowerA s avs ks = some (ps, ks') → ∃ r, ks' = ks ++ r
  | [], ks, ks', ps, h => by cases h; exact ⟨[], by simp⟩
  | .pv p :: r, ks, ks', ps, h => by
    unfold lowerA at h
    split at h
    · rename_i ps' ks'' e
      cases h
      exact lower_ext e
    · cases h
  | .sl i :: r, ks, ks', ps, h => by
    unfold lowerA at h
    split at h
    · cases h
    · rename_i k e
      split at h
      · rename_i ps' ks'' e2
        cases h
        obtain ⟨x, e3⟩ := lower_ext e2
        exact ⟨k :: x, by rw [e3, List.append_assoc]; rfl⟩
      · cases h
theorem lower_rp (o : OkF C F A H σ s) {D : Fx} (hk : D.K = C.K) (hc : D.cl = C.cl) (ks0 : List MKey) (hn : D.nb = ks0.length) (hb : ∀ (j : Nat) (k : MKey), ks0[j]? = some k → D.be j = adr σ C k) :
    ∀ {avs : List AV} {vs : List V} {ks ks' : List MKey} {ps : List SV}, lowerA s avs ks = some (ps, ks') → (∃ r, ks0 = ks' ++ r) → RAs C σ F vs avs → RpA D F vs ps
  | [], vs, ks, ks', ps, h, _, r => by cases h; cases r; exact .nil
  | .pv p :: r, vs, ks, ks', ps, h, he, ra => by
    unfold lowerA at h
    split at h
    · rename_i ps' ks'' e
      cases h
      cases ra with
      | pv r1 r2 => exact .val (r1.cg hk hc) (lower_rp o hk hc ks0 hn hb e he r2)
    · cases h
  | .sl i :: r, vs, ks, ks', ps, h, he, ra => by
    unfold lowerA at h
    split at h
    · cases h
    · rename_i k ek
      split at h
      · rename_i ps' ks'' e2
        cases h
        cases ra with
        | @sl v _ vs' _ r1 r2 =>
          obtain ⟨x, e3⟩ := lower_ext e2
          obtain ⟨y, e4⟩ := he
          have ej : ks0[ks.length]? = some k := by
            rw [e4, e3]
            simp
          have hlt : ks.length < D.nb := by rw [hn]; exact (List.getElem?_eq_some_iff.mp ej).1
          have ev : v = .ref (D.be ks.length) := by
            rw [hb _ _ ej]
            unfold keyOf at ek
            split at ek
            · rename_i m e
              cases ek
              obtain ⟨p, h1, _⟩ := o.own i m e
              rw [h1] at r1
              cases r1
              show V.ref p = V.ref (match σ[i]? with | some (some (.ref p)) => p | _ => 0)
              rw [h1]
            · rename_i q e
              cases ek
              have := (o.lent i q e).1
              rw [this] at r1
              cases r1
              rfl
            · cases ek
          rw [ev]
          exact .bor hlt (lower_rp o hk hc ks0 hn hb e2 ⟨y, e4⟩ r2)
      · cases h
/-- THE CALL -/
theorem call_core (o : OkF C F A H σ s) {avs : List AV} {vs : List V} {ps : List SV} {ks : List MKey} {ms : List MO} (hl : lowerA s avs [] = some (ps, ks)) (hd : distinct ks = true) (hg : getAll s ks = some ms) (r : RAs C σ F vs avs) :
    OkF (subC σ A C ks) F noA H [] ⟨[], ms⟩ ∧ RpA (subC σ A C ks) F vs ps ∧
      ∀ F' H' ms', OkF (subC σ A C ks) F' noA H' [] ⟨[], ms'⟩ → Step (subC σ A C ks) F noA H F' noA H' →
        OkF C F' A H' σ (setAll s ks ms') ∧ Step C F A H F' A H' ∧ ∀ p m, Fresh (subC σ A C ks) F noA H F' noA H' p m → Fresh C F A H F' A H' p m := by
  obtain ⟨lms, hms⟩ := getAll_at hg
  have kg : ∀ (j : Nat) (k : MKey), ks[j]? = some k → ks.getD j (.inl 0) = k := fun j k e => by rw [List.getD_eq_getElem?_getD, e]; rfl
  have kv : ∀ (j : Nat), j < ks.length → ∃ (k : MKey) (m : MO), ks[j]? = some k ∧ ms[j]? = some m ∧ getK s k = some m := fun j hj => by
    obtain ⟨m, h1, h2⟩ := hms j ks[j] (List.getElem?_eq_getElem hj)
    exact ⟨ks[j], m, List.getElem?_eq_getElem hj, h1, h2⟩
  have nofr : ∀ {X : Addr}, ¬ OwnA noA X := fun {X} ⟨i, h⟩ => absurd h (by simp [noA])
  refine ⟨⟨rfl, o.sub, fun i v e => by simp at e, fun i m e => by simp at e, lms.symm, fun i k e => by simp at e, fun j m e => ?_, fun _ _ h => absurd h (by simp [noA]), fun _ _ _ h _ => absurd h (by simp [noA]), fun j b hj hb => ?_, fun i j b hi hj hb hb' => ?_⟩,
    lower_rp (D := subC σ A C ks) o rfl rfl ks rfl (fun j k e => by show adr σ C (ks.getD j (.inl 0)) = _; rw [kg j k e]) hl ⟨[], by simp⟩ r, fun F' H' ms' o' st => ?_⟩
  · have hj : j < ks.length := by rw [lms]; exact (List.getElem?_eq_some_iff.mp e).1
    obtain ⟨k, m', h1, h2, h3⟩ := kv j hj
    have e' : ms[j]? = some m := e
    rw [h2] at e'; cases e'
    show MAt (subC σ A C ks) F H (adr σ C (ks.getD j _)) (fpr A C (ks.getD j _)) m
    rw [kg j k h1]
    exact (key_at o h3).1.cg (by rfl) (by rfl)
  · obtain ⟨k, m', h1, h2, h3⟩ := kv j hj
    have hb' : b ∈ fpr A C (ks.getD j (.inl 0)) := hb
    rw [kg j k h1] at hb'
    exact ⟨((key_at o h3).2.1 b hb').1, fun _ h => absurd h (by simp [noA])⟩
  · obtain ⟨k, m', h1, h2, h3⟩ := kv i hi
    obtain ⟨k', m'', h1', h2', h3'⟩ := kv j hj
    have hb1 : b ∈ fpr A C (ks.getD i (.inl 0)) := hb
    have hb2 : b ∈ fpr A C (ks.getD j (.inl 0)) := hb'
    rw [kg i k h1] at hb1
    rw [kg j k' h1'] at hb2
    have ek := key_dis o (key_at o h3).2.2.2 (key_at o h3').2.2.2 hb1 hb2
    exact distinct_ne hd i j k h1 (by rw [ek]; exact h1')
  · -- behind the call
    have lms' : ks.length = ms'.length := o'.nb.symm
    have bor_in : ∀ b, Bor (subC σ A C ks) b → OwnA A b ∨ Bor C b := fun b ⟨j, hj, hb⟩ => by
      obtain ⟨k, m', h1, h2, h3⟩ := kv j hj
      have hb' : b ∈ fpr A C (ks.getD j (.inl 0)) := hb
      rw [kg j k h1] at hb'
      cases k with
      | inl i => exact .inl ⟨i, hb'⟩
      | inr q => exact .inr ⟨q, (key_at o h3).2.2.2 q rfl, hb'⟩
    have stay : ∀ k, (∀ q, k = MKey.inr q → q < C.nb) → k ∉ ks → ∀ b x, b ∈ fpr A C k → H b = some x → H' b = some x := fun k hk nk b x hb hx => by
      refine st.s4 b x hx nofr ?_
      rintro ⟨j, hj, hb2⟩
      obtain ⟨k', m', h1, h2, h3⟩ := kv j hj
      have hb' : b ∈ fpr A C (ks.getD j (.inl 0)) := hb2
      rw [kg j k' h1] at hb'
      have := key_dis o hk (key_at o h3).2.2.2 hb hb'
      rw [this] at nk
      exact nk (List.mem_of_getElem? h1)
    have keepN : ∀ b, F b = none → H b ≠ none → F' b = none := fun b h1 h2 => by
      cases e : F' b with
      | none => rfl
      | some x =>
        rcases st.s2 b (by rw [e]; simp) with z | z | z
        · exact absurd h1 z
        · exact absurd z h2
        · exact absurd z nofr
    have borKey : ∀ (q : Nat) (m : MO), s.mu[q]? = some m → getK s (.inr q) = some m := fun q m e => e
    refine ⟨⟨?_, o'.sub, fun i v e => ?_, fun i m e => ?_, ?_, fun i k e => ?_, fun k m e => ?_, fun i b hb => ?_, o.dis, fun k b hk hb => ?_, o.disB⟩, ⟨st.s1, fun b hb => ?_, fun b hb => .inl hb, fun b x hx n1 n2 => ?_, st.s5⟩, fun p m f => ?_⟩
    · rw [(setAll_lens ks ms' s).1]; exact o.len
    · rcases setAll_ro ks ms' s lms' i _ e with ⟨j, m, h1, h2, h3⟩ | ⟨h1, h2⟩
      · cases h3
      · obtain ⟨u, h3, h4⟩ := o.val i v h1
        exact ⟨u, h3, h4.mono st.s1⟩
    · rcases setAll_ro ks ms' s lms' i _ e with ⟨j, m', h1, h2, h3⟩ | ⟨h1, h2⟩
      · cases h3
        have hj : j < ks.length := (List.getElem?_eq_some_iff.mp h1).1
        obtain ⟨k, m0, g1, g2, g3⟩ := kv j hj
        rw [h1] at g1; cases g1
        refine ⟨_, (key_at o g3).2.2.1 i rfl, ?_⟩
        have z : MAt (subC σ A C ks) F' H' (adr σ C (ks.getD j (.inl 0))) (fpr A C (ks.getD j (.inl 0))) m := o'.bor j m h2
        rw [kg j _ h1] at z
        exact z.cg (by rfl) (by rfl)
      · obtain ⟨p, h3, h4⟩ := o.own i m h1
        exact ⟨p, h3, h4.keep st.s1 (stay (.inl i) (fun q z => by cases z) h2)⟩
    · rw [(setAll_lens ks ms' s).2]; exact o.nb
    · rcases setAll_ro ks ms' s lms' i _ e with ⟨j, m', h1, h2, h3⟩ | ⟨h1, h2⟩
      · cases h3
      · exact o.lent i k h1
    · rcases setAll_mu ks ms' s lms' k _ e with ⟨j, h1, h2⟩ | ⟨h1, h2⟩
      · have z : MAt (subC σ A C ks) F' H' (adr σ C (ks.getD j (.inl 0))) (fpr A C (ks.getD j (.inl 0))) m := o'.bor j m h2
        rw [kg j _ h1] at z
        exact z.cg (by rfl) (by rfl)
      · have hk : k < C.nb := by rw [← o.nb]; exact (List.getElem?_eq_some_iff.mp h1).1
        exact (o.bor k m h1).keep st.s1 (stay (.inr k) (fun q z => by cases z; exact hk) h2)
    · obtain ⟨h1, h2⟩ := o.free i b hb
      exact ⟨keepN b h1 h2, st.s5 b h2⟩
    · have hm : k < s.mu.length := by rw [o.nb]; exact hk
      have ht := (o.bor k s.mu[k] (List.getElem?_eq_getElem hm)).there b hb
      exact ⟨keepN b (o.freeB k b hk hb).1 ht, (o.freeB k b hk hb).2⟩
    · rcases st.s2 b hb with z | z | z
      · exact .inl z
      · exact .inr (.inl z)
      · exact absurd z nofr
    · refine st.s4 b x hx nofr fun z => ?_
      rcases bor_in b z with q | q
      · exact n1 q
      · exact n2 q
    · obtain ⟨fp, h1, h2⟩ := f
      refine ⟨fp, h1.cg (by rfl) (by rfl), fun b hb => ?_⟩
      obtain ⟨k1, k2, k3, k4⟩ := h2 b hb
      have hn : H b = none := by
        rcases k4 with z | z
        · exact z
        · exact absurd z nofr
      refine ⟨k1, fun ⟨i, z⟩ => (o.free i b z).2 hn, fun ⟨q, hq, z⟩ => ?_, .inl hn⟩
      have hm : q < s.mu.length := by rw [o.nb]; exact hq
      exact (o.bor q s.mu[q] (List.getElem?_eq_getElem hm)).there b z hn
end

section
variable {X : Cx} {C : Fx} {W : WX} {e a tg : Expr} {es : List Expr} {pos : Pos} {fe : Stt → Res PV} {fo : Stt → Res MO} {fa : Stt → Res (List AV)}
theorem dl_nil : DL X C W [] lNil := ⟨_, pa_nil, fun F A H σ s Q o p => Post.now o p .nil⟩
theorem dl_pv (ha : DV X C W a fe) (hs : DL X C W es fa) (he : starEach (a :: es) X.env = (false, eval a X.env) :: starEach es X.env := by rfl) : DL X C W (a :: es) (lPv fe fa) := by
  obtain ⟨ta, pa, qa⟩ := ha.pr
  obtain ⟨tb, pb, qb⟩ := hs.pr
  refine ⟨_, pa_cons pa pb he, fun F A H σ s Q o p => ?_⟩
  refine qa F A H σ s _ o (p.seq fun q1 s1 v1 F1 A1 H1 _ o1 st1 r1 p1 => ?_)
  refine qb F1 A1 H1 σ s1 _ o1 (p1.seq fun q2 s2 v2 F2 A2 H2 _ o2 st2 r2 p2 => ?_)
  exact Post.now o2 p2 (.pv (r1.mono st2.s1) r2)
theorem dl_sl (i : Nat) {x : Str} {p : Pos} (hs : DL X C W es fa) (hN : X.N[i]? = some x := by rfl) (hv : Vis X.env.scope x := by first | exact Or.inl rfl | exact Or.inr (Or.inl rfl) | exact Or.inr (Or.inr rfl)) (hd : (x == ("__debug__" : Str)) = false := by decide)
    (hcd : (x == ("__classdict__" : Str)) = false := by decide) (he : starEach (.Name x p :: es) X.env = (false, eval (.Name x p) X.env) :: starEach es X.env := by rfl) : DL X C W (.Name x p :: es) (lSl i fa) := by
  obtain ⟨tb, pb, qb⟩ := hs.pr
  refine ⟨_, pa_cons (pe_var hN hv hd hcd) pb he, fun F A H σ s Q o p => ?_⟩
  have go : ∀ v, σ[i]? = some (some v) → Post C W (fun F _ vs ps => RAs C σ F vs ps) F A H σ ((fa s).bind fun q s2 => .ok (AV.sl i :: q) s2) Q → tCons (tVar i) tb σ H Q := fun v hv p => by
    refine ⟨v, hv, ?_⟩
    refine qb F A H σ s _ o (p.seq fun q2 s2 v2 F2 A2 H2 _ o2 st2 r2 p2 => ?_)
    exact Post.now o2 p2 (.sl hv r2)
  unfold lSl at p
  split at p
  · rename_i m e
    obtain ⟨q, h1, _⟩ := o.own i m e
    exact go _ h1 p
  · rename_i k e
    exact go _ (o.lent i k e).1 p
  · exact p.elim

/-- the callee's promise from the caller's wish -/
theorem call_post {n : Nat} {m : List SV → List MO → FRes} {F H : Hp} {A : Nat → List Addr} {σ : L2.St} {s : Stt} {avs : List AV} {vs : List V} {Q : VK} (hK : X.K = C.K) (hlen : avs.length = n) (o : OkF C F A H σ s) (r : RAs C σ F vs avs)
    (p : Post C W (RV C) F A H σ (match lowerA s avs [] with
  | none => Res.stuck
  | some (ps, ks) => if distinct ks = true then match getAll s ks with
    | none => Res.stuck
    | some ms => match m ps ms with
      | .ok v ms' => Res.ok v (setAll s ks ms')
      | .own (.lst l) ms' => Res.ok (.lst l) (setAll s ks ms')
      | .own _ _ => Res.stuck
      | .ex c v ms' => Res.ex c v (setAll s ks ms')
      | .stuck => Res.stuck
    else Res.stuck) Q) : spOf X.K C.cl n m vs H Q (fun c d H => W c d σ H) := by
  have hl : vs.length = avs.length := by
    clear p hlen
    induction r with
    | nil => rfl
    | pv _ _ ih => simpa using ih
    | sl _ _ ih => simpa using ih
  cases e1 : lowerA s avs [] with
  | none => rw [e1] at p; exact p.elim
  | some pk =>
    obtain ⟨ps, ks⟩ := pk
    rw [e1] at p
    simp only at p
    split at p
    · rename_i hd
      cases e2 : getAll s ks with
      | none => rw [e2] at p; exact p.elim
      | some ms =>
        rw [e2] at p
        simp only at p
        obtain ⟨c1, c2, c3⟩ := call_core o e1 hd e2 r
        refine ⟨hl.trans hlen, subC σ A C ks, F, ps, ms, hK.symm, rfl, c1, c2, ?_⟩
        cases e3 : m ps ms with
        | ok v ms' =>
          rw [e3] at p
          intro u F' H' o' st' r'
          obtain ⟨o2, st2, _⟩ := c3 F' H' ms' o' st'
          exact p u F' A H' o2 st2 (r'.cg (by rfl) (by rfl))
        | own mo ms' =>
          rw [e3] at p
          cases mo with
          | lst l =>
            intro q F' H' o' st' f'
            obtain ⟨o2, st2, f2⟩ := c3 F' H' ms' o' st'
            obtain ⟨F2, o3, st3, r3⟩ := o2.freeze st2 (f2 q _ f')
            exact p _ F2 A H' o3 st3 r3
          | _ => exact p.elim
        | ex c v ms' =>
          rw [e3] at p
          intro d F' H' o' st' x'
          obtain ⟨o2, st2, _⟩ := c3 F' H' ms' o' st'
          obtain ⟨u, h1, h2⟩ := x'
          exact p d F' A H' o2 st2 ⟨u, h1, h2.cg (by rfl) (by rfl)⟩
        | stuck => rw [e3] at p; exact p.elim
    · exact p.elim
end
end PL

/-! PL6: tests, choices, calls, comprehensions. -/
namespace PL
open PySem PySem.Spec PyProof.Rows L2

/-! ### tests -/
def tOf (f : Stt → Res PV) : Stt → Res Bool := fun s => (f s).bind fun p s1 => match p with
  | .bl b => .ok b s1
  | _ => .stuck
def pTru : PV → Option Bool
  | .non => some false
  | .bl b => some b
  | .int i => some (i != 0)
  | .str y => if y.length ≤ 16777216 then some ((y.length : Int) != 0) else none
  | .tup l => some (!l.isEmpty)
  | .lst l => some (!l.isEmpty)
  | .scr l => some (!l.isEmpty)
  | .ins _ _ => none
def tTru (f : Stt → Res PV) : Stt → Res Bool := fun s => (f s).bind fun p s1 => Res.opt s1 (pTru p)
def tNt (f : Stt → Res Bool) : Stt → Res Bool := fun s => (f s).bind fun p s1 => .ok (!p) s1
def tAn (f g : Stt → Res Bool) : Stt → Res Bool := fun s => (f s).bind fun p s1 => if p = true then g s1 else .ok false s1
def tOrr (f g : Stt → Res Bool) : Stt → Res Bool := fun s => (f s).bind fun p s1 => if p = true then .ok true s1 else g s1
def eIf (t : Stt → Res Bool) (f g : Stt → Res PV) : Stt → Res PV := fun s => (t s).bind fun p s1 => if p = true then f s1 else g s1
def eAn (f g : Stt → Res PV) : Stt → Res PV := fun s => (f s).bind fun p s1 => match pTru p with
  | some true => g s1
  | some false => .ok p s1
  | none => .stuck
def eOr (f g : Stt → Res PV) : Stt → Res PV := fun s => (f s).bind fun p s1 => match pTru p with
  | some true => .ok p s1
  | some false => g s1
  | none => .stuck
def eNt (f : Stt → Res PV) : Stt → Res PV := fun s => (f s).bind fun p s1 => match pTru p with
  | some b => .ok (.bl !b) s1
  | none => .stuck
def eChain (op op' : PV → PV → Option PV) (fa fb fc : Stt → Res PV) : Stt → Res PV := fun s => (fa s).bind fun p s1 => (fb s1).bind fun q s2 => match op p q with
  | some (.bl true) => (fc s2).bind fun r s3 => Res.opt s3 (op' q r)
  | some (.bl false) => .ok (.bl false) s2
  | _ => .stuck

theorem tru_of {C : Fx} {F H : Hp} {K : PySem.W.Frag} {v : V} {p : PV} {b : Bool} (hK : K = C.K) (sm : Same F H) (r : Rp C F v p) (h : pTru p = some b) : TruV K v H b := by
  subst hK
  cases r with
  | non => cases h; rfl
  | bl b => cases h; rfl
  | int i => cases h; rfl
  | str y =>
    have h : (if y.length ≤ 16777216 then some ((y.length : Int) != 0) else none) = some b := h
    split at h
    · rename_i hl; cases h; exact ⟨by rw [sizeLine_eq]; exact hl, rfl⟩
    · cases h
  | @tup a xs l h1 h2 =>
    cases h
    refine .inr (.inl ⟨xs, sqT_mono sm h1, ?_⟩)
    cases h2 <;> rfl
  | @lst a xs l h1 h2 =>
    cases h
    refine .inl ⟨xs, .inl (.inl (sm _ _ h1)), ?_⟩
    cases h2 <;> rfl
  | @scr a xs l h1 h2 =>
    cases h
    refine .inl ⟨xs, sm.seq h1, ?_⟩
    cases h2 <;> rfl
  | ins _ _ => cases h

section
variable {X : Cx} {C : Fx} {W : WX} {a b c e tg : Expr} {es : List Expr} {pos : Pos} {fa fb fc fe : Stt → Res PV} {ta tb : Stt → Res Bool}
/-- a bool's value, as a test -/
theorem tOf_post {t : TE} {f : Stt → Res PV} (h : ∀ F A H σ s Q, OkF C F A H σ s → Post C W (RV C) F A H σ (f s) Q → t σ H Q) :
    ∀ F A H σ s Q, OkF C F A H σ s → Post C W RB F A H σ (tOf f s) Q → tTest t σ H Q := by
  intro F A H σ s Q o p
  refine h F A H σ s _ o (p.seq fun q s1 v F1 A1 H1 _ o1 st1 r1 p1 => ?_)
  cases r1 with
  | bl k => exact ⟨k, rfl, Post.now o1 p1 rfl⟩
  | _ => exact p1.elim
theorem dt_cmp {op : CmpOp} {r : R2} {f : PV → PV → Option PV} (ho : OpR X (compareOp op) r) (h : OpD C r f) (ha : DV X C W a fa) (hb : DV X C W b fb) (hm : behindInMarks op b = false) : DT X C W (.Compare a [op] [b] pos) (tOf (eBin f fa fb)) := by
  obtain ⟨t1, pa, qa⟩ := ha.pr
  obtain ⟨t2, pb, qb⟩ := hb.pr
  exact ⟨_, pt_cmpR ho pa pb hm, tOf_post (opPost h qa qb)⟩
theorem chain_post {r r' : R2} {f f' : PV → PV → Option PV} {t1 t2 t3 : TE} (h : OpD C r f) (h' : OpD C r' f') (qa : ∀ F A H σ s Q, OkF C F A H σ s → Post C W (RV C) F A H σ (fa s) Q → t1 σ H Q) (qb : ∀ F A H σ s Q, OkF C F A H σ s → Post C W (RV C) F A H σ (fb s) Q → t2 σ H Q) (qc : ∀ F A H σ s Q, OkF C F A H σ s → Post C W (RV C) F A H σ (fc s) Q → t3 σ H Q) :
    ∀ F A H σ s Q, OkF C F A H σ s → Post C W (RV C) F A H σ (eChain f f' fa fb fc s) Q → tChain r r' t1 t2 t3 σ H Q := by
  intro F A H σ s Q o p
  refine qa F A H σ s _ o (p.seq fun q1 s1 v1 F1 A1 H1 _ o1 st1 r1 p1 => ?_)
  refine qb F1 A1 H1 σ s1 _ o1 (p1.seq fun q2 s2 v2 F2 A2 H2 _ o2 st2 r2 p2 => ?_)
  cases e : f q1 q2 with
  | none => rw [e] at p2; exact p2.elim
  | some z =>
    rw [e] at p2
    cases z with
    | bl k =>
      refine h F2 A2 H2 σ s2 v1 v2 q1 q2 _ _ o2 (r1.mono st2.s1) r2 e fun v3 F3 A3 H3 o3 st3 r3 => ?_
      cases r3
      refine ⟨k, rfl, ?_⟩
      cases k with
      | false =>
        refine iteF ?_
        exact p2 _ F3 A3 H3 o3 st3 (.bl false)
      | true =>
        refine iteT ?_
        refine qc F3 A3 H3 σ s2 _ o3 ((p2.after st3).seq fun q4 s4 v4 F4 A4 H4 _ o4 st4 r4 p4 => ?_)
        obtain ⟨z, e4, k4⟩ := Post.opt p4
        exact h' F4 A4 H4 σ s4 v2 v4 q2 q4 z Q o4 (r2.mono (st3.s1.trans st4.s1)) r4 e4 k4
    | _ => exact p2.elim
theorem dv_chain {op op' : CmpOp} {r r' : R2} {f f' : PV → PV → Option PV} (ho : OpR X (compareOp op) r) (ho' : OpR X (compareOp op') r') (h : OpD C r f) (h' : OpD C r' f') (ha : DV X C W a fa) (hb : DV X C W b fb) (hc : DV X C W c fc)
    (hm : lastMarks [op, op'] [b, c] = false := by with_unfolding_all rfl) : DV X C W (.Compare a [op, op'] [b, c] pos) (eChain f f' fa fb fc) := by
  obtain ⟨t1, pa, qa⟩ := ha.pr
  obtain ⟨t2, pb, qb⟩ := hb.pr
  obtain ⟨t3, pc, qc⟩ := hc.pr
  exact ⟨_, pe_chain ho ho' pa pb pc hm, chain_post h h' qa qb qc⟩
theorem dt_chain {op op' : CmpOp} {r r' : R2} {f f' : PV → PV → Option PV} (ho : OpR X (compareOp op) r) (ho' : OpR X (compareOp op') r') (h : OpD C r f) (h' : OpD C r' f') (ha : DV X C W a fa) (hb : DV X C W b fb) (hc : DV X C W c fc)
    (hm : lastMarks [op, op'] [b, c] = false := by with_unfolding_all rfl) : DT X C W (.Compare a [op, op'] [b, c] pos) (tOf (eChain f f' fa fb fc)) := by
  obtain ⟨t1, pa, qa⟩ := ha.pr
  obtain ⟨t2, pb, qb⟩ := hb.pr
  obtain ⟨t3, pc, qc⟩ := hc.pr
  exact ⟨_, pt_chain ho ho' pa pb pc hm, tOf_post (chain_post h h' qa qb qc)⟩
theorem dt_tru (hK : X.K = C.K) (ha : DV X C W a fa) (he : ∀ whole, isTrue a X.env whole = (do let v ← whole; standAt a.pos; holding [v] (truthy v)) := by intro _; rfl) : DT X C W a (tTru fa) := by
  obtain ⟨t1, pa, qa⟩ := ha.pr
  refine ⟨_, pt_truth pa he, fun F A H σ s Q o p => ?_⟩
  refine qa F A H σ s _ o (p.seq fun q s1 v F1 A1 H1 _ o1 st1 r1 p1 => ?_)
  obtain ⟨z, e, k⟩ := Post.opt p1
  exact ⟨z, tru_of hK o1.sub r1 e, k z F1 A1 H1 o1 .refl rfl⟩
theorem dt_not (ha : DT X C W a ta) : DT X C W (.UnaryOp .Not a pos) (tNt ta) := by
  obtain ⟨t1, pa, qa⟩ := ha.pr
  refine ⟨_, pt_not pa, fun F A H σ s Q o p => ?_⟩
  refine qa F A H σ s _ o (p.seq fun q s1 v F1 A1 H1 _ o1 st1 r1 p1 => ?_)
  obtain rfl : v = q := r1
  exact Post.now o1 p1 rfl
structure DW (X : Cx) (C : Fx) (W : WX) (e : Expr) (f : Stt → Res Bool) : Prop where
  pr : ∃ te, PW X e te ∧ ∀ F A H σ s Q, OkF C F A H σ s → Post C W RB F A H σ (f s) Q → te σ H Q
theorem dw_and1 (ha : DT X C W a ta) : DW X C W (.BoolOp .And [a] pos) ta := let ⟨t, p, q⟩ := ha.pr; ⟨t, pw_and1 p, q⟩
theorem dw_or1 (ha : DT X C W a ta) : DW X C W (.BoolOp .Or [a] pos) ta := let ⟨t, p, q⟩ := ha.pr; ⟨t, pw_or1 p, q⟩
theorem dw_and (ha : DT X C W a ta) (hb : DW X C W (.BoolOp .And (b :: es) pos) tb) : DW X C W (.BoolOp .And (a :: b :: es) pos) (tAn ta tb) := by
  obtain ⟨t1, pa, qa⟩ := ha.pr
  obtain ⟨t2, pb, qb⟩ := hb.pr
  refine ⟨_, pw_and pa pb, fun F A H σ s Q o p => ?_⟩
  refine qa F A H σ s _ o (p.seq fun q s1 v F1 A1 H1 _ o1 st1 r1 p1 => ?_)
  obtain rfl : v = q := r1
  cases v with
  | true => exact iteT (qb F1 A1 H1 σ s1 Q o1 (by simpa using p1))
  | false => exact iteF (Post.now (a := false) o1 (by simpa using p1) rfl)
theorem dw_or (ha : DT X C W a ta) (hb : DW X C W (.BoolOp .Or (b :: es) pos) tb) : DW X C W (.BoolOp .Or (a :: b :: es) pos) (tOrr ta tb) := by
  obtain ⟨t1, pa, qa⟩ := ha.pr
  obtain ⟨t2, pb, qb⟩ := hb.pr
  refine ⟨_, pw_or pa pb, fun F A H σ s Q o p => ?_⟩
  refine qa F A H σ s _ o (p.seq fun q s1 v F1 A1 H1 _ o1 st1 r1 p1 => ?_)
  obtain rfl : v = q := r1
  cases v with
  | true => exact iteT (Post.now (a := true) o1 (by simpa using p1) rfl)
  | false => exact iteF (qb F1 A1 H1 σ s1 Q o1 (by simpa using p1))
theorem dt_of (h : DW X C W a ta) : DT X C W a ta := let ⟨t, p, q⟩ := h.pr; ⟨t, p.pt, q⟩
/-! ### values by truth -/
theorem dv_one {op} (h : DV X C W a fa) : DV X C W (.BoolOp op [a] pos) fa := let ⟨t, p, q⟩ := h.pr; ⟨t, pe_one p, q⟩
theorem dv_and (hK : X.K = C.K) (ha : DV X C W a fa) (hb : DV X C W (.BoolOp .And (b :: es) pos) fb) : DV X C W (.BoolOp .And (a :: b :: es) pos) (eAn fa fb) := by
  obtain ⟨t1, pa, qa⟩ := ha.pr
  obtain ⟨t2, pb, qb⟩ := hb.pr
  refine ⟨_, pe_andT pa pb, fun F A H σ s Q o p => ?_⟩
  refine qa F A H σ s _ o (p.seq fun q s1 v F1 A1 H1 _ o1 st1 r1 p1 => ?_)
  cases e : pTru q with
  | none => rw [e] at p1; exact p1.elim
  | some k =>
    rw [e] at p1
    refine ⟨k, tru_of hK o1.sub r1 e, ?_⟩
    cases k with
    | true => exact iteT (qb F1 A1 H1 σ s1 Q o1 p1)
    | false => exact iteF (Post.now o1 p1 r1)
theorem dv_or (hK : X.K = C.K) (ha : DV X C W a fa) (hb : DV X C W (.BoolOp .Or (b :: es) pos) fb) : DV X C W (.BoolOp .Or (a :: b :: es) pos) (eOr fa fb) := by
  obtain ⟨t1, pa, qa⟩ := ha.pr
  obtain ⟨t2, pb, qb⟩ := hb.pr
  refine ⟨_, pe_orT pa pb, fun F A H σ s Q o p => ?_⟩
  refine qa F A H σ s _ o (p.seq fun q s1 v F1 A1 H1 _ o1 st1 r1 p1 => ?_)
  cases e : pTru q with
  | none => rw [e] at p1; exact p1.elim
  | some k =>
    rw [e] at p1
    refine ⟨k, tru_of hK o1.sub r1 e, ?_⟩
    cases k with
    | true => exact iteT (Post.now o1 p1 r1)
    | false => exact iteF (qb F1 A1 H1 σ s1 Q o1 p1)
theorem dv_not (hK : X.K = C.K) (ha : DV X C W a fa) : DV X C W (.UnaryOp .Not a pos) (eNt fa) := by
  obtain ⟨t1, pa, qa⟩ := ha.pr
  refine ⟨_, pe_notT pa, fun F A H σ s Q o p => ?_⟩
  refine qa F A H σ s _ o (p.seq fun q s1 v F1 A1 H1 _ o1 st1 r1 p1 => ?_)
  cases e : pTru q with
  | none => rw [e] at p1; exact p1.elim
  | some k =>
    rw [e] at p1
    exact ⟨k, tru_of hK o1.sub r1 e, Post.now o1 p1 (.bl _)⟩
theorem dv_if (hc : DT X C W c ta) (ha : DV X C W a fa) (hb : DV X C W b fb) : DV X C W (.IfExp c a b pos) (eIf ta fa fb) := by
  obtain ⟨t0, pc, qc⟩ := hc.pr
  obtain ⟨t1, pa, qa⟩ := ha.pr
  obtain ⟨t2, pb, qb⟩ := hb.pr
  refine ⟨_, pe_ifExp pc pa pb, fun F A H σ s Q o p => ?_⟩
  refine qc F A H σ s _ o (p.seq fun q s1 v F1 A1 H1 _ o1 st1 r1 p1 => ?_)
  obtain rfl : v = q := r1
  cases v with
  | true => exact iteT (qa F1 A1 H1 σ s1 Q o1 (by simpa using p1))
  | false => exact iteF (qb F1 A1 H1 σ s1 Q o1 (by simpa using p1))
end

/-! ### calls of defs -/
section
variable {X : Cx} {C : Fx} {W : WX} {a b c e tg : Expr} {es : List Expr} {pos p : Pos} {fa : Stt → Res (List AV)} {f : Addr} {fd : FuncData} {ps : List Str} {k n : Nat} {m : List SV → List MO → FRes} {x : Str}
/-- the number of arguments is right -/
def avN (n : Nat) (fa : Stt → Res (List AV)) : Stt → Res (List AV) := fun s => (fa s).bind fun l s1 => if l.length = n then .ok l s1 else .stuck
theorem dv_call (F : FnP X.prog X.w X.K X.mg X.base C.cl k f fd ps m) (hr : Room k X.A) (gu : X.A.guards = some []) (tk : Takes X W) (hK : X.K = C.K) (hm : X.mg x = some (.ref f)) (hk : PySem.W.keepIn X.K (.ref f) = true) (hb : Binds X.K fd ps []) (ha : DL X C W (a :: es) fa)
    (hg : Gl X x := by rfl) (hdb : (x == ("__debug__" : Str)) = false := by decide) (he : starEach (a :: es) X.env = (false, eval a X.env) :: starEach es X.env := by rfl) (hpl : (backTo pos (starEach es X.env)).any (·.1) = false := by rfl) (hnn : ps.length = n := by rfl) :
    DV X C W (.Call (.Name x p) (a :: es) [] pos) (eCall m (avN n fa)) := by
  subst hnn
  obtain ⟨ta, pa, qa⟩ := ha.pr
  refine ⟨_, pe_callG (E := fun σ c d H => W c d σ H) F hr gu hg hm hk hb .nil (fun σ => passAt tk σ) pa hdb he hpl, fun F A H σ s Q o pp => ?_⟩
  show ta σ H fun vs H1 => spOf X.K C.cl ps.length m (vs ++ []) H1 Q (fun c d H => W c d σ H)
  unfold eCall avN at pp
  refine qa F A H σ s _ o ?_
  cases hf : fa s with
  | ok avs s1 =>
    rw [hf] at pp
    simp only [Res.bind] at pp
    intro vs F1 A1 H1 o1 st1 r1
    rw [List.append_nil]
    by_cases hl : avs.length = ps.length
    · rw [if_pos hl] at pp
      exact call_post hK hl o1 r1 (Post.after st1 pp)
    · rw [if_neg hl] at pp; exact pp.elim
  | ex c v s1 => rw [hf] at pp; exact pp
  | stuck => rw [hf] at pp; exact pp
/-- as call_post, the result a fresh object -/
theorem call_postO {F H : Hp} {A : Nat → List Addr} {σ : L2.St} {s : Stt} {avs : List AV} {vs : List V} {Q : VK} (hK : X.K = C.K) (hlen : avs.length = n) (o : OkF C F A H σ s) (r : RAs C σ F vs avs)
    (p : PostO C W F A H σ (match lowerA s avs [] with
  | none => Res.stuck
  | some (ps, ks) => if distinct ks = true then match getAll s ks with
    | none => Res.stuck
    | some ms => match m ps ms with
      | .ok _ _ => Res.stuck
      | .own o ms' => Res.ok o (setAll s ks ms')
      | .ex c v ms' => Res.ex c v (setAll s ks ms')
      | .stuck => Res.stuck
    else Res.stuck) Q) : spOf X.K C.cl n m vs H Q (fun c d H => W c d σ H) := by
  have hl : vs.length = avs.length := by
    clear p hlen
    induction r with
    | nil => rfl
    | pv _ _ ih => simpa using ih
    | sl _ _ ih => simpa using ih
  cases e1 : lowerA s avs [] with
  | none => rw [e1] at p; exact p.elim
  | some pk =>
    obtain ⟨ps, ks⟩ := pk
    rw [e1] at p
    simp only at p
    split at p
    · rename_i hd
      cases e2 : getAll s ks with
      | none => rw [e2] at p; exact p.elim
      | some ms =>
        rw [e2] at p
        simp only at p
        obtain ⟨c1, c2, c3⟩ := call_core o e1 hd e2 r
        refine ⟨hl.trans hlen, subC σ A C ks, F, ps, ms, hK.symm, rfl, c1, c2, ?_⟩
        cases e3 : m ps ms with
        | ok v ms' => rw [e3] at p; exact p.elim
        | own mo ms' =>
          rw [e3] at p
          intro q F' H' o' st' f'
          obtain ⟨o2, st2, f2⟩ := c3 F' H' ms' o' st'
          exact p q F' A H' o2 st2 (f2 q _ f')
        | ex c v ms' =>
          rw [e3] at p
          intro d F' H' o' st' x'
          obtain ⟨o2, st2, _⟩ := c3 F' H' ms' o' st'
          obtain ⟨u, h1, h2⟩ := x'
          exact p d F' A H' o2 st2 ⟨u, h1, h2.cg (by rfl) (by rfl)⟩
        | stuck => rw [e3] at p; exact p.elim
    · exact p.elim
theorem do_call (F : FnP X.prog X.w X.K X.mg X.base C.cl k f fd ps m) (hr : Room k X.A) (gu : X.A.guards = some []) (tk : Takes X W) (hK : X.K = C.K) (hm : X.mg x = some (.ref f)) (hk : PySem.W.keepIn X.K (.ref f) = true) (hb : Binds X.K fd ps []) (ha : DL X C W (a :: es) fa)
    (hg : Gl X x := by rfl) (hdb : (x == ("__debug__" : Str)) = false := by decide) (he : starEach (a :: es) X.env = (false, eval a X.env) :: starEach es X.env := by rfl) (hpl : (backTo pos (starEach es X.env)).any (·.1) = false := by rfl) (hnn : ps.length = n := by rfl) :
    DO X C W (.Call (.Name x p) (a :: es) [] pos) (oCall m (avN n fa)) := by
  subst hnn
  obtain ⟨ta, pa, qa⟩ := ha.pr
  refine ⟨_, pe_callG (E := fun σ c d H => W c d σ H) F hr gu hg hm hk hb .nil (fun σ => passAt tk σ) pa hdb he hpl, fun F A H σ s Q o pp => ?_⟩
  show ta σ H fun vs H1 => spOf X.K C.cl ps.length m (vs ++ []) H1 Q (fun c d H => W c d σ H)
  unfold oCall avN at pp
  refine qa F A H σ s _ o ?_
  cases hf : fa s with
  | ok avs s1 =>
    rw [hf] at pp
    simp only [Res.bind] at pp
    intro vs F1 A1 H1 o1 st1 r1
    rw [List.append_nil]
    by_cases hl : avs.length = ps.length
    · rw [if_pos hl] at pp
      exact call_postO hK hl o1 r1 (PostO.after st1 pp)
    · rw [if_neg hl] at pp; exact pp.elim
  | ex c v s1 => rw [hf] at pp; exact pp
  | stuck => rw [hf] at pp; exact pp
end
end PL

/-! PL7: list comprehensions. -/
namespace PL
open PySem PySem.Spec PyProof.Rows L2

def wipeR (ro : List (Option SV)) : List Nat → List (Option SV)
  | [] => ro
  | v :: vs => (wipeR ro vs).set v none
def wipeS (vs : List Nat) (s : Stt) : Stt := ⟨wipeR s.ro vs, s.mu⟩
def keepV : Option (Option SV) → Option SV
  | some (some (.val p)) => some (.val p)
  | _ => none
def backR (r0 ro : List (Option SV)) : List Nat → List (Option SV)
  | [] => ro
  | v :: vs => (backR r0 ro vs).set v (keepV r0[v]?)
/-- behind the block: the block's own names are as they were -/
def backS (vs : List Nat) (s0 s : Stt) : Stt := ⟨backR s0.ro s.ro vs, s.mu⟩
theorem wipeR_len (ro : List (Option SV)) : ∀ vs, (wipeR ro vs).length = ro.length
  | [] => rfl
  | v :: vs => by unfold wipeR; rw [List.length_set, wipeR_len ro vs]
theorem backR_len (r0 ro : List (Option SV)) : ∀ vs, (backR r0 ro vs).length = ro.length
  | [] => rfl
  | v :: vs => by unfold backR; rw [List.length_set, backR_len r0 ro vs]
theorem wipeR_some {ro : List (Option SV)} {i : Nat} {x : SV} : ∀ {vs : List Nat}, (wipeR ro vs)[i]? = some (some x) → ro[i]? = some (some x) ∧ i ∉ vs
  | [], h => ⟨h, by simp⟩
  | v :: vs, h => by
    unfold wipeR at h
    by_cases hi : v = i
    · subst hi
      have hl : v < (wipeR ro vs).length := by
        have := (List.getElem?_eq_some_iff.mp h).1
        rwa [List.length_set] at this
      rw [List.getElem?_set_self hl] at h; cases h
    · rw [List.getElem?_set_ne hi] at h
      obtain ⟨h1, h2⟩ := wipeR_some h
      exact ⟨h1, fun z => (List.mem_cons.mp z).elim (fun e => hi e.symm) h2⟩
theorem wipe_out' {σ : L2.St} {i : Nat} : ∀ {vs : List Nat}, i ∉ vs → (L2.wipe σ vs)[i]? = σ[i]?
  | [], _ => rfl
  | v :: vs, h => by
    unfold L2.wipe
    rw [List.getElem?_set_ne (fun e => h (by rw [e]; exact List.mem_cons_self))]
    exact wipe_out' fun z => h (List.mem_cons_of_mem _ z)
theorem backR_some {r0 ro : List (Option SV)} {i : Nat} {x : SV} : ∀ {vs : List Nat}, (backR r0 ro vs)[i]? = some (some x) → (i ∈ vs ∧ ∃ p, x = .val p ∧ r0[i]? = some (some (.val p))) ∨ (i ∉ vs ∧ ro[i]? = some (some x))
  | [], h => .inr ⟨by simp, h⟩
  | v :: vs, h => by
    unfold backR at h
    by_cases hi : v = i
    · subst hi
      have hl : v < (backR r0 ro vs).length := by
        have := (List.getElem?_eq_some_iff.mp h).1
        rwa [List.length_set] at this
      rw [List.getElem?_set_self hl] at h
      have h : keepV r0[v]? = some x := Option.some.inj h
      unfold keepV at h
      split at h
      · rename_i p e
        cases h
        exact .inl ⟨List.mem_cons_self, p, rfl, e⟩
      · cases h
    · rw [List.getElem?_set_ne hi] at h
      rcases backR_some h with ⟨h1, h2⟩ | ⟨h1, h2⟩
      · exact .inl ⟨List.mem_cons_of_mem _ h1, h2⟩
      · exact .inr ⟨fun z => (List.mem_cons.mp z).elim (fun e => hi e.symm) h1, h2⟩
section
variable {C : Fx} {F H : Hp} {A : Nat → List Addr} {σ : L2.St} {s : Stt}
theorem OkF.wipe (o : OkF C F A H σ s) (vs : List Nat) : OkF C F A H (L2.wipe σ vs) (wipeS vs s) :=
  ⟨by show _ = (wipeR s.ro vs).length; rw [L2.wipe_length, wipeR_len]; exact o.len, o.sub, fun i v e => by
      obtain ⟨h1, h2⟩ := wipeR_some e
      obtain ⟨u, h3, h4⟩ := o.val i v h1
      exact ⟨u, (wipe_out' h2).trans h3, h4⟩, fun i m e => by
      obtain ⟨h1, h2⟩ := wipeR_some e
      obtain ⟨u, h3, h4⟩ := o.own i m h1
      exact ⟨u, (wipe_out' h2).trans h3, h4⟩, o.nb, fun i k e => by
      obtain ⟨h1, h2⟩ := wipeR_some e
      obtain ⟨h3, h4⟩ := o.lent i k h1
      exact ⟨(wipe_out' h2).trans h3, h4⟩, o.bor, o.free, o.dis, o.freeB, o.disB⟩
theorem OkF.back {F2 H2 : Hp} {A2 : Nat → List Addr} {s2 : Stt} {vs : List Nat} (o : OkF C F A H σ s) (st : Step C F A H F2 A2 H2) (o2 : OkF C F2 A2 H2 (L2.wipe σ vs) s2) : OkF C F2 A2 H2 σ (backS vs s s2) :=
  ⟨by show _ = (backR s.ro s2.ro vs).length; rw [backR_len, ← o2.len, L2.wipe_length], o2.sub, fun i v e => by
      rcases backR_some e with ⟨h1, p, e1, h2⟩ | ⟨h1, h2⟩
      · cases e1
        obtain ⟨u, h3, h4⟩ := o.val i v h2
        exact ⟨u, h3, h4.mono st.s1⟩
      · obtain ⟨u, h3, h4⟩ := o2.val i v h2
        exact ⟨u, (wipe_out' h1).symm.trans h3, h4⟩, fun i m e => by
      rcases backR_some e with ⟨h1, p, e1, h2⟩ | ⟨h1, h2⟩
      · cases e1
      · obtain ⟨u, h3, h4⟩ := o2.own i m h2
        exact ⟨u, (wipe_out' h1).symm.trans h3, h4⟩, o2.nb, fun i k e => by
      rcases backR_some e with ⟨h1, p, e1, h2⟩ | ⟨h1, h2⟩
      · cases e1
      · obtain ⟨h3, h4⟩ := o2.lent i k h2
        exact ⟨(wipe_out' h1).symm.trans h3, h4⟩, o2.bor, o2.free, o2.dis, o2.freeB, o2.disB⟩
/-- an object that is not the state's own is changed -/
theorem OkF.other {D : Addr} {x : HO} (o : OkF C F A H σ s) (h1 : F D = none) (h2 : ¬ OwnA A D) (h3 : ¬ Bor C D) (h4 : H D ≠ none) : OkF C F A (upd H D x) σ s :=
  ⟨o.len, fun b u e => by rw [upd_ne (ne_of_none e h1)]; exact o.sub b u e, o.val, fun i m e => by
      obtain ⟨p, q1, q2⟩ := o.own i m e
      exact ⟨p, q1, q2.keep (fun _ _ h => h) fun b u hb hu => by rw [upd_ne (show b ≠ D from fun z => h2 ⟨i, z ▸ hb⟩)]; exact hu⟩, o.nb, o.lent, fun k m e => by
      have hk : k < C.nb := by rw [← o.nb]; exact (List.getElem?_eq_some_iff.mp e).1
      exact (o.bor k m e).keep (fun _ _ h => h) fun b u hb hu => by rw [upd_ne (show b ≠ D from fun z => h3 ⟨k, hk, z ▸ hb⟩)]; exact hu, fun i b hb => by
      obtain ⟨q1, q2⟩ := o.free i b hb
      exact ⟨q1, by rw [upd_ne (show b ≠ D from fun z => h2 ⟨i, z ▸ hb⟩)]; exact q2⟩, o.dis, o.freeB, o.disB⟩
theorem Step.other {F0 H0 : Hp} {A0 : Nat → List Addr} {D : Addr} {x : HO} (st : Step C F0 A0 H0 F A H) (h : H0 D = none) : Step C F0 A0 H0 F A (upd H D x) :=
  ⟨st.s1, st.s2, st.s3, fun b u e n1 n2 => by rw [upd_ne (ne_of_none e h)]; exact st.s4 b u e n1 n2, fun b e => by
    by_cases hb : b = D
    · subst hb; rw [upd_same]; simp
    · rw [upd_ne hb]; exact st.s5 b e⟩
/-- a thing that is not the state's own stays so, and as it is -/
structure Aside (C : Fx) (F : Hp) (A : Nat → List Addr) (H : Hp) (D : Addr) (x : HO) : Prop where
  a1 : F D = none
  a2 : ¬ OwnA A D
  a3 : ¬ Bor C D
  a4 : H D = some x
theorem Aside.step {F' H' : Hp} {A' : Nat → List Addr} {D : Addr} {x : HO} (a : Aside C F A H D x) (st : Step C F A H F' A' H') : Aside C F' A' H' D x where
  a1 := by
    cases e : F' D with
    | none => rfl
    | some y =>
      rcases st.s2 D (by rw [e]; simp) with z | z | z
      · exact absurd a.a1 z
      · rw [a.a4] at z; cases z
      · exact absurd z a.a2
  a2 := fun z => by
    rcases st.s3 D z with q | q
    · exact a.a2 q
    · rw [a.a4] at q; cases q
  a3 := a.a3
  a4 := st.s4 D x a.a4 a.a2 a.a3
end
theorem SameOut.wipe {vs : List Nat} {σ σ' : L2.St} (h : SameOut (fun i => decide (i ∈ vs)) σ σ') : L2.wipe σ' vs = L2.wipe σ vs := by
  have key : ∀ (us : List Nat) (i : Nat), (i ∈ us ∨ σ'[i]? = σ[i]?) → (L2.wipe σ' us)[i]? = (L2.wipe σ us)[i]? := by
    intro us
    induction us with
    | nil => intro i h; rcases h with z | z
             · cases z
             · exact z
    | cons v us ih =>
      intro i hi
      unfold L2.wipe
      by_cases e : v = i
      · subst e
        by_cases hl : v < σ.length
        · rw [List.getElem?_set_self (by rw [L2.wipe_length, h.1]; exact hl), List.getElem?_set_self (by rw [L2.wipe_length]; exact hl)]
        · rw [List.getElem?_eq_none (by rw [List.length_set, L2.wipe_length, h.1]; exact Nat.le_of_not_lt hl), List.getElem?_eq_none (by rw [List.length_set, L2.wipe_length]; exact Nat.le_of_not_lt hl)]
      · rw [List.getElem?_set_ne e, List.getElem?_set_ne e]
        refine ih i ?_
        rcases hi with z | z
        · rcases List.mem_cons.mp z with q | q
          · exact absurd q.symm e
          · exact .inl q
        · exact .inr z
  refine List.ext_getElem? fun i => key vs i ?_
  by_cases hm : i ∈ vs
  · exact .inl hm
  · exact .inr (h.2 i (decide_eq_false hm))

def compL (vs : List Nat) (a : PV → Stt → Option Stt) (ft : Stt → Res Bool) (fe : Stt → Res PV) : List PV → List PV → Stt → Res (List PV)
  | [], acc, s => .ok acc s
  | p :: r, acc, s => match a p s with
    | none => .stuck
    | some s1 => (ft s1).bind fun b s2 => if b = true then (fe s2).bind fun y s3 => if acc.length < 16777216 then compL vs a ft fe r (acc ++ [y]) (wipeS vs s3) else .stuck
      else compL vs a ft fe r acc (wipeS vs s2)
def noEx {α : Type} : Res α → Res α
  | .ok a s => .ok a s
  | _ => .stuck
def oComp (vs : List Nat) (fi : Stt → Res (List PV)) (a : PV → Stt → Option Stt) (ft : Stt → Res Bool) (fe : Stt → Res PV) : Stt → Res MO := fun s => (fi s).bind fun l s1 => (noEx (compL vs a ft fe l [] (wipeS vs s1))).bind fun acc s2 => .ok (.lst acc) (backS vs s1 s2)
theorem compL_cons (vs : List Nat) (a : PV → Stt → Option Stt) (ft : Stt → Res Bool) (fe : Stt → Res PV) (p : PV) (r acc : List PV) (s s1 : Stt) (h : a p s = some s1) : compL vs a ft fe (p :: r) acc s = (ft s1).bind fun b s2 => if b = true then (fe s2).bind fun y s3 => if acc.length < 16777216 then compL vs a ft fe r (acc ++ [y]) (wipeS vs s3) else .stuck
      else compL vs a ft fe r acc (wipeS vs s2) := by
  show (match a p s with | none => _ | some s1 => _) = _
  rw [h]
def tYesD : Stt → Res Bool := fun s => .ok true s
abbrev W0 : WX := fun _ _ _ _ => False

section
variable {C : Fx} {W : WX}
/-- the reading of a comprehension, from those of its parts -/
theorem lc_den {ti : TI} {tg : TG} {tt : TT} {te : TE} {vs : List Nat} {fi : Stt → Res (List PV)} {a : PV → Stt → Option Stt} {ft : Stt → Res Bool} {fe : Stt → Res PV}
    (qi : ∀ F A H σ s (Q : It → Hp → Prop), OkF C F A H σ s → Post C W (RI C) F A H σ (fi s) Q → ti σ H Q)
    (qg : ∀ F A H σ s x p s' Q, OkF C F A H σ s → Rp C F x p → a p s = some s' → (∀ σ' F' A' H', OkF C F' A' H' σ' s' → Step C F A H F' A' H' → SameOut (fun i => decide (i ∈ vs)) σ σ' → Q σ' H') → tg x σ H Q)
    (qt : ∀ F A H σ s Q, OkF C F A H σ s → Post C W0 RB F A H σ (ft s) Q → tt σ H Q)
    (qe : ∀ F A H σ s Q, OkF C F A H σ s → Post C W0 (RV C) F A H σ (fe s) Q → te σ H Q) :
    ∀ F A H σ s Q, OkF C F A H σ s → PostO C W F A H σ (oComp vs fi a ft fe s) Q → tLc ti tg tt te vs σ H Q := by
  intro F A H σ s Q o p
  unfold oComp at p
  refine qi F A H σ s _ o (PostO.seq p fun l s1 J F1 A1 H1 _ o1 st1 r1 p1 => ?_)
  obtain ⟨G, Y, w, hG, hY⟩ := r1
  intro D hD
  -- the list of the results
  have hF1 : F1 D = none := o1.sub.free hD
  have nA1 : ¬ OwnA A1 D := fun ⟨i, z⟩ => (o1.free i D z).2 hD
  have nB1 : ¬ Bor C D := fun ⟨q, hq, z⟩ => by
    have hm : q < s1.mu.length := by rw [o1.nb]; exact hq
    exact (o1.bor q s1.mu[q] (List.getElem?_eq_getElem hm)).there D z hD
  obtain ⟨R, hR⟩ : ∃ R, noEx (compL vs a ft fe l [] (wipeS vs s1)) = R := ⟨_, rfl⟩
  rw [hR] at p1
  have key : ∃ acc0 s0, compL vs a ft fe l [] (wipeS vs s1) = .ok acc0 s0 ∧ PostO C W F1 A1 H1 σ (.ok (.lst acc0) (backS vs s1 s0)) Q := by
    cases e : compL vs a ft fe l [] (wipeS vs s1) with
    | ok acc0 s0 => rw [e] at hR; subst hR; exact ⟨acc0, s0, rfl, p1⟩
    | ex c v s0 => rw [e] at hR; subst hR; exact p1.elim
    | stuck => rw [e] at hR; subst hR; exact p1.elim
  obtain ⟨acc0, s0, hc0, pf⟩ := key
  refine lc_it w (fun i H2 => ∃ F2 A2 s2 acc xs, OkF C F2 A2 H2 (L2.wipe σ vs) s2 ∧ Step C F1 A1 H1 F2 A2 H2 ∧ Aside C F2 A2 H2 D (.lst xs) ∧ Rps C F2 xs acc ∧ compL vs a ft fe (l.drop i) acc s2 = .ok acc0 s0) ?_ (fun i H2 _ ⟨F2, A2, s2, acc, xs, o2, st2, _⟩ => hG H2 (st2.s1.trans o2.sub)) ?_ ?_
  · refine ⟨F1, A1, wipeS vs s1, [], [], ?_, ?_, ⟨hF1, nA1, nB1, upd_same⟩, .nil, by simpa using hc0⟩
    · have := (o1.fresh (u := .lst []) (m := .lst []) hD ⟨rfl, [], upd_same, .nil⟩).1
      exact this.wipe vs
    · exact (Step.refl).other hD
  · rintro i x H2 H3 hi ⟨F2, A2, s2, acc, xs, o2, st2, as2, ra2, hc⟩ y
    have hl : l[i]? = some l[i] := List.getElem?_eq_getElem hi
    obtain ⟨F3, o3, st3, r3⟩ := hY i F2 A2 H2 _ s2 x H3 l[i] o2 st2.s1 y hl
    rw [List.drop_eq_getElem_cons hi] at hc
    cases ea : a l[i] s2 with
    | none =>
      have z : compL vs a ft fe (l[i] :: l.drop (i + 1)) acc s2 = .stuck := by
        show (match a l[i] s2 with | none => _ | some s1 => _) = _
        rw [ea]
      rw [z] at hc; cases hc
    | some s3 =>
      rw [compL_cons _ _ _ _ _ _ _ _ _ ea] at hc
      refine qg F3 A2 H3 _ s2 x l[i] s3 _ o3 r3 ea fun σ4 F4 A4 H4 o4 st4 so => ?_
      have ww : L2.wipe σ4 vs = L2.wipe σ vs := by
        have e1 := so.wipe
        have e2 : L2.wipe (L2.wipe σ vs) vs = L2.wipe σ vs := by
          refine SameOut.wipe ⟨L2.wipe_length _ _, fun i h => wipe_out' (of_decide_eq_false h)⟩
        exact e1.trans e2
      refine ⟨ww, ?_⟩
      cases hb : ft s3 with
      | ex c v s5 => rw [hb] at hc; cases hc
      | stuck => rw [hb] at hc; cases hc
      | ok b s5 =>
        refine qt F4 A4 H4 σ4 s3 _ o4 ?_
        rw [hb] at hc ⊢
        intro b' F5 A5 H5 o5 st5 rb
        obtain rfl : b' = b := rb
        have sA := ((st2.trans st3).trans st4).trans st5
        have as5 := ((as2.step st3).step st4).step st5
        cases b' with
        | false =>
          refine iteF ?_
          have hc : compL vs a ft fe (l.drop (i + 1)) acc (wipeS vs s5) = .ok acc0 s0 := by simpa using hc
          exact ⟨F5, A5, wipeS vs s5, acc, xs, by rw [← ww]; exact o5.wipe vs, sA, as5, ra2.mono ((st3.s1.trans st4.s1).trans st5.s1), hc⟩
        | true =>
          refine iteT ?_
          have hc : ((fe s5).bind fun y s3 => if acc.length < 16777216 then compL vs a ft fe (l.drop (i + 1)) (acc ++ [y]) (wipeS vs s3) else .stuck) = .ok acc0 s0 := by simpa using hc
          cases hy : fe s5 with
          | ex c v s6 => rw [hy] at hc; cases hc
          | stuck => rw [hy] at hc; cases hc
          | ok yv s6 =>
            refine qe F5 A5 H5 σ4 s5 _ o5 ?_
            rw [hy] at hc ⊢
            intro u F6 A6 H6 o6 st6 r6
            have as6 := as5.step st6
            simp only [Res.bind] at hc
            by_cases hlen : acc.length < 16777216
            · rw [if_pos hlen] at hc
              have ra6 : Rps C F6 xs acc := ra2.mono (((st3.s1.trans st4.s1).trans st5.s1).trans st6.s1)
              refine ⟨xs, as6.a4, by rw [ra6.length, sizeLine_eq]; exact hlen, F6, A6, wipeS vs s6, acc ++ [yv], xs ++ [u], ?_, (sA.trans st6).other hD, ⟨as6.a1, as6.a2, as6.a3, upd_same⟩, ra6.append (.cons r6 .nil), hc⟩
              rw [← ww]
              exact (o6.other as6.a1 as6.a2 as6.a3 (by rw [as6.a4]; simp)).wipe vs
            · rw [if_neg hlen] at hc; cases hc
  · rintro H2 ⟨F2, A2, s2, acc, xs, o2, st2, as2, ra2, hc⟩
    rw [List.drop_of_length_le (Nat.le_refl _)] at hc
    cases hc
    exact pf D F2 A2 H2 (o1.back st2 o2) st2 ⟨[D], ⟨rfl, xs, as2.a4, ra2⟩, fun b hb => by
      rw [List.mem_singleton] at hb
      subst hb
      exact ⟨as2.a1, as2.a2, as2.a3, .inl hD⟩⟩
end
section
variable {X : Cx} {C : Fx} {W : WX} {elt tg iter : Expr} {ifs : List Expr} {scope : Scope} {own : List (Str × Nat)} {pos : Pos} {fi : Stt → Res (List PV)} {a : PV → Stt → Option Stt} {ft : Stt → Res Bool} {fe : Stt → Res PV}
/-- the tests of a comprehension -/
structure DTs (X : Cx) (C : Fx) (W : WX) (ifs : List Expr) (f : Stt → Res Bool) : Prop where
  pr : ∃ te, PTs X ifs te ∧ ∀ F A H σ s Q, OkF C F A H σ s → Post C W RB F A H σ (f s) Q → te σ H Q
theorem dts_nil : DTs X C W [] tYesD := ⟨_, pts_nil, fun F A H σ s Q o p => Post.now o p rfl⟩
theorem dts_one {c : Expr} (h : DT X C W c ft) : DTs X C W [c] ft := let ⟨t, p, q⟩ := h.pr; ⟨t, pts_one p, q⟩
/-- the readings that fit every context -/
def cTE (C : Fx) (W : WX) (f : Stt → Res PV) : TE := fun σ H Q => ∃ F A s, OkF C F A H σ s ∧ Post C W (RV C) F A H σ (f s) Q
def cTT (C : Fx) (W : WX) (f : Stt → Res Bool) : TT := fun σ H Q => ∃ F A s, OkF C F A H σ s ∧ Post C W RB F A H σ (f s) Q
def cTG (C : Fx) (vs : Nat → Bool) (a : PV → Stt → Option Stt) : TG := fun x σ H Q => ∃ F A s p s', OkF C F A H σ s ∧ Rp C F x p ∧ a p s = some s' ∧ ∀ σ' F' A' H', OkF C F' A' H' σ' s' → Step C F A H F' A' H' → SameOut vs σ σ' → Q σ' H'
theorem DV.c {e : Expr} (h : DV X C W e fe) : PE X e (cTE C W fe) := by
  obtain ⟨t, p, q⟩ := h.pr
  exact ⟨fun pins s σ H Q I ⟨F, A, s1, o, pp⟩ => p.run pins s σ H Q I (q F A H σ s1 Q o pp)⟩
theorem DTs.c (h : DTs X C W ifs ft) : PTs X ifs (cTT C W ft) := by
  obtain ⟨t, p, q⟩ := h.pr
  exact ⟨fun pins s σ H Q I ⟨F, A, s1, o, pp⟩ => p.run pins s σ H Q I (q F A H σ s1 Q o pp)⟩
theorem DG.c {vs : Nat → Bool} (h : DG X C vs tg a) : PG X tg (cTG C vs a) := by
  obtain ⟨t, p, q⟩ := h.pr
  exact ⟨fun pins s σ H v u Q I r ⟨F, A, s1, pv, s2, o, rp, e, k⟩ => p.run pins s σ H v u Q I r (q F A H σ s1 v pv s2 Q o rp e k)⟩
theorem do_lc (hc : X.calm = true) (hN : X.N.Nodup) (ok : BlkOk X.N X.env.scope scope own) (hi : DI X C W tg iter fi)
    (hg : ∀ (s : Shared) (H : Hp) (L : Addr) (cl : List (Str × Addr)) (fp : List Addr), DG (X.blk s H scope (compEnvC scope cl L X.env) fp) C (fun i => decide (i ∈ own.map (·.2))) tg a)
    (ht : ∀ (s : Shared) (H : Hp) (L : Addr) (cl : List (Str × Addr)) (fp : List Addr), DTs (X.blk s H scope (compEnvC scope cl L X.env) fp) C W0 ifs ft)
    (he : ∀ (s : Shared) (H : Hp) (L : Addr) (cl : List (Str × Addr)) (fp : List Addr), DV (X.blk s H scope (compEnvC scope cl L X.env) fp) C W0 elt fe) (hs : ∀ x, foldedSetIterable iter X.env x = pure x := by intro _; rfl) :
    DO X C W (.ListComp elt [⟨tg, iter, ifs, 0⟩] scope pos) (oComp (own.map (·.2)) fi a ft fe) := by
  obtain ⟨ti, pi, qi⟩ := hi.pr
  refine ⟨_, pe_lc hc hN pi ok (fun s H L cl fp => (hg s H L cl fp).c) (fun s H L cl fp => (ht s H L cl fp).c) (fun s H L cl fp => (he s H L cl fp).c) hs, ?_⟩
  exact lc_den qi (fun F A H σ s x p s' Q o r e k => ⟨F, A, s, p, s', o, r, e, k⟩) (fun F A H σ s Q o p => ⟨F, A, s, o, p⟩) (fun F A H σ s Q o p => ⟨F, A, s, o, p⟩)
/-- name = [..] on one line, the name a local: the list is a plain value -/
theorem ds_lcV {i : Nat} {y : Str} {py spos : Pos} (hc : X.calm = true) (hN : X.N.Nodup) (hy : X.N[i]? = some y) (hyl : X.env.scope.names.lookup y = some .local)
    (hsw : swapsWith (.ListComp elt [⟨tg, iter, ifs, 0⟩] scope pos) (some (.Name y py)) spos.line X.env = pure true) (ok : BlkOk X.N X.env.scope scope own) (hi : DI X C W tg iter fi)
    (hg : ∀ (s : Shared) (H : Hp) (L : Addr) (cl : List (Str × Addr)) (fp : List Addr), DG (X.blk s H scope (compEnvC scope cl L X.env) fp) C (fun i => decide (i ∈ own.map (·.2))) tg a)
    (ht : ∀ (s : Shared) (H : Hp) (L : Addr) (cl : List (Str × Addr)) (fp : List Addr), DTs (X.blk s H scope (compEnvC scope cl L X.env) fp) C W0 ifs ft)
    (he : ∀ (s : Shared) (H : Hp) (L : Addr) (cl : List (Str × Addr)) (fp : List Addr), DV (X.blk s H scope (compEnvC scope cl L X.env) fp) C W0 elt fe) (hs : ∀ x, foldedSetIterable iter X.env x = pure x := by intro _; rfl) :
    DS X C W (.Assign [.Name y py] (.ListComp elt [⟨tg, iter, ifs, 0⟩] scope pos) spos) (gAsg (frz (oComp (own.map (·.2)) fi a ft fe)) (aName i)) := by
  obtain ⟨ti, pi, qi⟩ := hi.pr
  refine ⟨_, ps_setLc hc hN hy hyl hsw pi ok (fun s H L cl fp => (hg s H L cl fp).c) (fun s H L cl fp => (ht s H L cl fp).c) (fun s H L cl fp => (he s H L cl fp).c) hs, fun F A H σ s D o p => ?_⟩
  have den := lc_den (C := C) (W := W) (vs := own.map (·.2)) (tg := cTG C (fun i => decide (i ∈ own.map (·.2))) a) (tt := cTT C W0 ft) (te := cTE C W0 fe) qi (fun F A H σ s x p s' Q o r e k => ⟨F, A, s, p, s', o, r, e, k⟩) (fun F A H σ s Q o p => ⟨F, A, s, o, p⟩) (fun F A H σ s Q o p => ⟨F, A, s, o, p⟩)
  refine den F A H σ s _ o ?_
  unfold gAsg frz at p
  cases hr : oComp (own.map (·.2)) fi a ft fe s with
  | ok m s1 =>
    rw [hr] at p
    cases m with
    | lst l =>
      intro q F' A' H' o1 st1 fr
      obtain ⟨F2, o2, st2, r2⟩ := o1.freeze st1 fr
      obtain ⟨o3, st3⟩ := o2.setV (i := i) r2
      exact p _ _ _ _ o3 (st2.trans st3)
    | _ => exact p.elim
  | ex c v s1 => rw [hr] at p; exact fun d F' A' H' => p d σ F' A' H'
  | stuck => rw [hr] at p; exact p
/-- .. the slot owns the list -/
theorem ds_lcO {i : Nat} {y : Str} {py spos : Pos} (hc : X.calm = true) (hN : X.N.Nodup) (hy : X.N[i]? = some y) (hyl : X.env.scope.names.lookup y = some .local)
    (hsw : swapsWith (.ListComp elt [⟨tg, iter, ifs, 0⟩] scope pos) (some (.Name y py)) spos.line X.env = pure true) (ok : BlkOk X.N X.env.scope scope own) (hi : DI X C W tg iter fi)
    (hg : ∀ (s : Shared) (H : Hp) (L : Addr) (cl : List (Str × Addr)) (fp : List Addr), DG (X.blk s H scope (compEnvC scope cl L X.env) fp) C (fun i => decide (i ∈ own.map (·.2))) tg a)
    (ht : ∀ (s : Shared) (H : Hp) (L : Addr) (cl : List (Str × Addr)) (fp : List Addr), DTs (X.blk s H scope (compEnvC scope cl L X.env) fp) C W0 ifs ft)
    (he : ∀ (s : Shared) (H : Hp) (L : Addr) (cl : List (Str × Addr)) (fp : List Addr), DV (X.blk s H scope (compEnvC scope cl L X.env) fp) C W0 elt fe) (hs : ∀ x, foldedSetIterable iter X.env x = pure x := by intro _; rfl) :
    DS X C W (.Assign [.Name y py] (.ListComp elt [⟨tg, iter, ifs, 0⟩] scope pos) spos) (gAsgO i (oComp (own.map (·.2)) fi a ft fe)) := by
  obtain ⟨ti, pi, qi⟩ := hi.pr
  refine ⟨_, ps_setLc hc hN hy hyl hsw pi ok (fun s H L cl fp => (hg s H L cl fp).c) (fun s H L cl fp => (ht s H L cl fp).c) (fun s H L cl fp => (he s H L cl fp).c) hs, fun F A H σ s D o p => ?_⟩
  have den := lc_den (C := C) (W := W) (vs := own.map (·.2)) (tg := cTG C (fun i => decide (i ∈ own.map (·.2))) a) (tt := cTT C W0 ft) (te := cTE C W0 fe) qi (fun F A H σ s x p s' Q o r e k => ⟨F, A, s, p, s', o, r, e, k⟩) (fun F A H σ s Q o p => ⟨F, A, s, o, p⟩) (fun F A H σ s Q o p => ⟨F, A, s, o, p⟩)
  refine den F A H σ s _ o ?_
  unfold gAsgO at p
  cases hr : oComp (own.map (·.2)) fi a ft fe s with
  | ok m s1 =>
    rw [hr] at p
    intro q F' A' H' o1 st1 fr
    simp only [Res.fl] at p
    split at p
    · rename_i hl
      obtain ⟨A2, o2, st2⟩ := o1.setO st1 fr hl
      exact p _ F' A2 H' o2 st2
    · exact p.elim
  | ex c v s1 => rw [hr] at p; exact fun d F' A' H' => p d σ F' A' H'
  | stuck => rw [hr] at p; exact p
end
end PL

/-! PL8: operators and built-ins by plain values. -/
namespace PL
open PySem PySem.Spec PyProof.Rows L2

/-! ### numbers -/
def okMul (i j : Int) : Bool := decide (i.natAbs.log2 + j.natAbs.log2 < 1000000)
def okDiv (j : Int) : Bool := decide (j ≠ 0 ∧ j.natAbs.log2 < 9000)
def okPow (i j : Int) : Bool := decide (0 ≤ j ∧ (i.natAbs.log2 + 1) * j.toNat ≤ 1000000)
def pSub : PV → PV → Option PV
  | .int i, .int j => some (.int (i - j))
  | _, _ => none
def pFdiv : PV → PV → Option PV
  | .int i, .int j => if okDiv j = true then some (.int (i.fdiv j)) else none
  | _, _ => none
def pMod : PV → PV → Option PV
  | .int i, .int j => if j ≠ 0 then some (.int (i.fmod j)) else none
  | _, _ => none
def pPow : PV → PV → Option PV
  | .int i, .int j => if okPow i j = true then some (.int (i ^ j.toNat)) else none
  | _, _ => none
def pNeg : PV → Option PV
  | .int i => some (.int (-i))
  | _ => none
def pLt : PV → PV → Option PV
  | .int i, .int j => some (.bl (decide (i < j)))
  | _, _ => none
def pLe : PV → PV → Option PV
  | .int i, .int j => some (.bl (decide (i ≤ j)))
  | _, _ => none
def pGt : PV → PV → Option PV
  | .int i, .int j => some (.bl (decide (j < i)))
  | _, _ => none
def pGe : PV → PV → Option PV
  | .int i, .int j => some (.bl (decide (j ≤ i)))
  | _, _ => none
def pAdd : PV → PV → Option PV
  | .int i, .int j => some (.int (i + j))
  | .str x, .str y => if x.length + y.length ≤ 16777216 then some (.str (x ++ y)) else none
  | .lst x, .lst y => if x.length + y.length ≤ 16777216 then some (.lst (x ++ y)) else none
  | .tup x, .tup y => if x.length + y.length ≤ 16777216 then some (.tup (x ++ y)) else none
  | _, _ => none
def pMul : PV → PV → Option PV
  | .int i, .int j => if okMul i j = true then some (.int (i * j)) else none
  | .lst x, .int k => if -(2 ^ 63) ≤ k ∧ k < 2 ^ 63 ∧ x.length * k.toNat ≤ 16777216 then some (.lst (List.replicate k.toNat x).flatten) else none
  | _, _ => none

section
variable {X : Cx} {C : Fx}
/-- two ints -/
theorem opD_int {Cd : Int → Int → Prop} {g : Int → Int → V} {f : PV → PV → Option PV} {z : Int → Int → PV} (h : ∀ p q y, f p q = some y → ∃ i j, p = .int i ∧ q = .int j ∧ Cd i j ∧ y = z i j) (hz : ∀ F i j, Rp C F (g i j) (z i j)) : OpD C (rI Cd g) f := by
  intro F A H σ s x y p q w Q o r1 r2 e k
  obtain ⟨i, j, rfl, rfl, hc, rfl⟩ := h _ _ _ e
  cases r1
  cases r2
  exact ⟨i, j, rfl, rfl, hc, k _ F A H o .refl (hz F i j)⟩
theorem opD_int0 {g : Int → Int → V} {f : PV → PV → Option PV} {z : Int → Int → PV} (h : ∀ p q y, f p q = some y → ∃ i j, p = .int i ∧ q = .int j ∧ y = z i j) (hz : ∀ F i j, Rp C F (g i j) (z i j)) : OpD C (rI0 g) f := by
  intro F A H σ s x y p q w Q o r1 r2 e k
  obtain ⟨i, j, rfl, rfl, rfl⟩ := h _ _ _ e
  cases r1
  cases r2
  exact ⟨i, j, rfl, rfl, k _ F A H o .refl (hz F i j)⟩
theorem OpD.or {r r' : R2} {f : PV → PV → Option PV} (h : ∀ F A H σ s x y p q z (Q : VK), OkF C F A H σ s → Rp C F x p → Rp C F y q → f p q = some z →
    (∀ v F' A' H', OkF C F' A' H' σ s → Step C F A H F' A' H' → Rp C F' v z → Q v H') → r x y H Q ∨ r' x y H Q) : OpD C (fun x y H Q => r x y H Q ∨ r' x y H Q) f := h
def CDivA (i j : Int) : Prop := j ≠ 0 ∧ j.natAbs.log2 < 9000
theorem op_fdivA : OpR X (binaryOp .FloorDiv) (rI CDivA fun i j => .int (i.fdiv j)) := opI fun _ _ _ _ _ _ _ hc q => floordiv_int hc.1 q (.inl (PyProof.noPylong_of_log2 hc.2))
def CPowA (i j : Int) : Prop := 0 ≤ j ∧ (i.natAbs.log2 + 1) * j.toNat ≤ 1000000
theorem bits_log (i : Int) : Builtin.Int.intBits i ≤ i.natAbs.log2 + 1 := by
  unfold Builtin.Int.intBits
  split <;> omega
theorem op_powA : OpR X (binaryOp .Pow) (rI CPowA fun i j => .int (i ^ j.toNat)) := opI fun i j _ _ _ _ _ hc q => by
  obtain ⟨h1, h2⟩ := hc
  refine pow_int h1 ?_ q
  have b := bits_log i
  have e : ((j.toNat : Nat) : Int) = j := Int.toNat_of_nonneg h1
  have m : Builtin.Int.intBits i * j.toNat ≤ 1000000 := Nat.le_trans (Nat.mul_le_mul_right _ b) h2
  have : ((Builtin.Int.intBits i * j.toNat : Nat) : Int) ≤ ((1000000 : Nat) : Int) := Int.ofNat_le.mpr m
  rw [Int.natCast_mul, e] at this
  have z : (1000000 : Int) ≤ 2 ^ 27 := by decide
  omega
theorem d_sub : OpD C (rI0 fun i j => .int (i - j)) pSub := opD_int0 (z := fun i j => .int (i - j)) (fun p q y e => by unfold pSub at e; split at e <;> cases e; exact ⟨_, _, rfl, rfl, rfl⟩) fun _ _ _ => .int _
theorem d_lt : OpD C (rI0 fun i j => .bl (decide (i < j))) pLt := opD_int0 (z := fun i j => .bl (decide (i < j))) (fun p q y e => by unfold pLt at e; split at e <;> cases e; exact ⟨_, _, rfl, rfl, rfl⟩) fun _ _ _ => .bl _
theorem d_le : OpD C (rI0 fun i j => .bl (decide (i ≤ j))) pLe := opD_int0 (z := fun i j => .bl (decide (i ≤ j))) (fun p q y e => by unfold pLe at e; split at e <;> cases e; exact ⟨_, _, rfl, rfl, rfl⟩) fun _ _ _ => .bl _
theorem d_gt : OpD C (rI0 fun i j => .bl (decide (j < i))) pGt := opD_int0 (z := fun i j => .bl (decide (j < i))) (fun p q y e => by unfold pGt at e; split at e <;> cases e; exact ⟨_, _, rfl, rfl, rfl⟩) fun _ _ _ => .bl _
theorem d_ge : OpD C (rI0 fun i j => .bl (decide (j ≤ i))) pGe := opD_int0 (z := fun i j => .bl (decide (j ≤ i))) (fun p q y e => by unfold pGe at e; split at e <;> cases e; exact ⟨_, _, rfl, rfl, rfl⟩) fun _ _ _ => .bl _
theorem d_fdiv : OpD C (rI CDivA fun i j => .int (i.fdiv j)) pFdiv := opD_int (z := fun i j => .int (i.fdiv j)) (fun p q y e => by
  unfold pFdiv at e; split at e
  · split at e
    · rename_i h; cases e; exact ⟨_, _, rfl, rfl, (by have z := of_decide_eq_true h; exact z), rfl⟩
    · cases e
  · cases e) fun _ _ _ => .int _
theorem d_mod : OpD C (rI (fun _ j => j ≠ 0) fun i j => .int (i.fmod j)) pMod := opD_int (z := fun i j => .int (i.fmod j)) (fun p q y e => by
  unfold pMod at e; split at e
  · split at e
    · rename_i h; cases e; exact ⟨_, _, rfl, rfl, h, rfl⟩
    · cases e
  · cases e) fun _ _ _ => .int _
theorem d_pow : OpD C (rI CPowA fun i j => .int (i ^ j.toNat)) pPow := opD_int (z := fun i j => .int (i ^ j.toNat)) (fun p q y e => by
  unfold pPow at e; split at e
  · split at e
    · rename_i h; cases e; exact ⟨_, _, rfl, rfl, (by have z := of_decide_eq_true h; exact z), rfl⟩
    · cases e
  · cases e) fun _ _ _ => .int _
theorem d_neg : UnD C (rU fun i => .int (-i)) pNeg := by
  intro F A H σ s x p z Q o r e k
  cases r with
  | int i => cases e; exact ⟨i, rfl, k _ F A H o .refl (.int _)⟩
  | _ => cases e
def rAddA (K : PySem.W.Frag) : R2 := fun x y H Q => rI0 (fun i j => .int (i + j)) x y H Q ∨ ((∃ i j, x = .str i ∧ y = .str j ∧ i.length + j.length ≤ sizeLine ∧ Q (.str (i ++ j)) H) ∨ (rCat x y H Q ∨ rCatA K x y H Q))
theorem op_addA : OpR X (binaryOp .Add) (rAddA X.K) := op_add.or (op_add_str.or (op_cat.or op_catA))
theorem d_add {K : PySem.W.Frag} (hK : K = C.K) : OpD C (rAddA K) pAdd := by
  intro F A H σ s x y p q z Q o r1 r2 e k
  unfold pAdd at e
  split at e
  · cases e; cases r1; cases r2
    exact .inl ⟨_, _, rfl, rfl, k _ F A H o .refl (.int _)⟩
  · split at e
    · rename_i hl
      cases e; cases r1; cases r2
      exact .inr (.inl ⟨_, _, rfl, rfl, line_le hl, k _ F A H o .refl (.str _)⟩)
    · cases e
  · split at e
    · rename_i hl
      cases e
      cases r1 with
      | @lst a xs l h1 h2 =>
        cases r2 with
        | @lst b ys l' h3 h4 =>
          refine .inr (.inr (.inl ⟨a, b, xs, ys, rfl, rfl, o.sub _ _ h1, o.sub _ _ h3, by rw [h2.length, h4.length]; exact line_le hl, fun p hp => ?_⟩))
          obtain ⟨o2, st2⟩ := o.alloc (o := .lst (xs ++ ys)) hp
          exact k _ _ _ _ o2 st2 (.lst upd_same ((h2.append h4).mono st2.s1))
    · cases e
  · split at e
    · rename_i hl
      cases e
      cases r1 with
      | @tup a xs l h1 h2 =>
        cases r2 with
        | @tup b ys l' h3 h4 =>
          refine .inr (.inr (.inr ⟨a, b, xs, ys, rfl, rfl, by rw [hK]; exact sqT_mono o.sub h1, by rw [hK]; exact sqT_mono o.sub h3, by rw [h2.length, h4.length]; exact line_le hl, fun e => ?_, fun _ e => ?_, fun _ _ p hp => ?_⟩))
          · subst e
            cases h2
            exact k _ F A H o .refl (.tup h3 h4)
          · subst e
            cases h4
            rw [List.append_nil] at k
            exact k _ F A H o .refl (.tup h1 h2)
          · obtain ⟨o2, st2⟩ := o.alloc (o := .tup (xs ++ ys)) hp
            exact k _ _ _ _ o2 st2 (.tup (.of upd_same) ((h2.append h4).mono st2.s1))
    · cases e
  · cases e
def rMulA : R2 := fun x y H Q => rI CMulW (fun i j => .int (i * j)) x y H Q ∨ rRep x y H Q
theorem op_mulA : OpR X (binaryOp .Mult) rMulA := op_mulW.or op_rep
theorem Rps.rep {F : Hp} {xs : List V} {l : List PV} (r : Rps C F xs l) : ∀ k : Nat, Rps C F (List.replicate k xs).flatten (List.replicate k l).flatten
  | 0 => .nil
  | k + 1 => by
    rw [List.replicate_succ, List.replicate_succ, List.flatten_cons, List.flatten_cons]
    exact r.append (Rps.rep r k)
theorem d_mul : OpD C rMulA pMul := by
  intro F A H σ s x y p q z Q o r1 r2 e k
  unfold pMul at e
  split at e
  · split at e
    · rename_i h
      cases e; cases r1; cases r2
      exact .inl ⟨_, _, rfl, rfl, (by have z := of_decide_eq_true h; exact z), k _ F A H o .refl (.int _)⟩
    · cases e
  · split at e
    · rename_i h
      cases e
      cases r2
      cases r1 with
      | @lst a xs l h1 h2 =>
        refine .inr ⟨a, _, xs, rfl, rfl, o.sub _ _ h1, h.1, h.2.1, by rw [h2.length]; exact line_le h.2.2, fun p hp => ?_⟩
        obtain ⟨o2, st2⟩ := o.alloc (o := .lst (List.replicate (Int.toNat _) xs).flatten) hp
        exact k _ _ _ _ o2 st2 (.lst upd_same ((h2.rep _).mono st2.s1))
    · cases e
  · cases e
end

/-! ### data, ==, in -/
mutual
def toD : PV → Option PyData
  | .non => some .none
  | .bl b => some (.bool b)
  | .int i => some (.int i)
  | .str x => some (.str x)
  | .tup l => (toDs l).map .tuple
  | .lst l => (toDs l).map .list
  | .scr l => (toDs l).map .list
  | .ins _ _ => none
def toDs : List PV → Option (List PyData)
  | [] => some []
  | p :: r => match toD p, toDs r with
    | some d, some ds => some (d :: ds)
    | _, _ => none
end
mutual
theorem dp_of {C : Fx} {F : Hp} : ∀ {v : V} {p : PV} {d : PyData}, Rp C F v p → toD p = some d → Dp C.K F v d
  | _, _, _, .non, e => by cases e; exact .non
  | _, _, _, .bl b, e => by cases e; exact .bl b
  | _, _, _, .int i, e => by cases e; exact .int i
  | _, _, _, .str x, e => by cases e; exact .str x
  | _, _, d, .tup (l := l) h r, e => by
    have e : (toDs l).map PyData.tuple = some d := e
    cases h2 : toDs l with
    | none => rw [h2] at e; cases e
    | some ds => rw [h2] at e; cases e; exact .tup h (dps_of r h2)
  | _, _, d, .lst (l := l) h r, e => by
    have e : (toDs l).map PyData.list = some d := e
    cases h2 : toDs l with
    | none => rw [h2] at e; cases e
    | some ds => rw [h2] at e; cases e; exact .lst (.of h) (dps_of r h2)
  | _, _, d, .scr (l := l) h r, e => by
    have e : (toDs l).map PyData.list = some d := e
    cases h2 : toDs l with
    | none => rw [h2] at e; cases e
    | some ds => rw [h2] at e; cases e; exact .lst h (dps_of r h2)
  | _, _, _, .ins _ _, e => by cases e
theorem dps_of {C : Fx} {F : Hp} : ∀ {v : List V} {p : List PV} {d : List PyData}, Rps C F v p → toDs p = some d → DpAll C.K F v d
  | _, _, _, .nil, e => by cases e; exact .nil
  | _, p :: r, d, .cons h1 h2, e => by
    unfold toDs at e
    split at e
    · rename_i d1 ds e1 e2
      cases e
      exact .cons (dp_of h1 e1) (dps_of h2 e2)
    · cases e
end
mutual
theorem dp_mono {K : PySem.W.Frag} {F H : Hp} (sm : Same F H) : ∀ {v : V} {d : PyData}, Dp K F v d → Dp K H v d
  | _, _, .non => .non
  | _, _, .bl b => .bl b
  | _, _, .int i => .int i
  | _, _, .str x => .str x
  | _, _, .lst h r => .lst (sm.seq h) (dps_mono sm r)
  | _, _, .tup h r => .tup (sqT_mono sm h) (dps_mono sm r)
theorem dps_mono {K : PySem.W.Frag} {F H : Hp} (sm : Same F H) : ∀ {v : List V} {d : List PyData}, DpAll K F v d → DpAll K H v d
  | _, _, .nil => .nil
  | _, _, .cons h r => .cons (dp_mono sm h) (dps_mono sm r)
end
def pEqB (p q : PV) : Option Bool := match toD p, toD q with
  | some d, some e => if (SeqAt.shaped d && SeqAt.shaped e) = true then some (PyData.eqv d e) else none
  | _, _ => none
def pEq (p q : PV) : Option PV := (pEqB p q).map .bl
def pNe (p q : PV) : Option PV := (pEqB p q).map fun b => .bl (!b)
def pIs : PV → PV → Option PV
  | p, .non => some (.bl (match p with | .non => true | _ => false))
  | _, _ => none
def pIsNot : PV → PV → Option PV
  | p, .non => some (.bl (match p with | .non => false | _ => true))
  | _, _ => none
def pInB : PV → PV → Option Bool
  | p, .lst l => match toD p, toDs l with
    | some d, some ds => if (SeqAt.shaped d && SeqAt.shaped (.list ds)) = true then some (ds.any fun z => PyData.eqv z d) else none
    | _, _ => none
  | _, _ => none
def pIn (p q : PV) : Option PV := (pInB p q).map .bl
def pNotIn (p q : PV) : Option PV := (pInB p q).map fun b => .bl (!b)
section
variable {X : Cx} {C : Fx}
theorem eqB_at {F H : Hp} {p q : PV} {b : Bool} {x y : V} (sm : Same F H) (r1 : Rp C F x p) (r2 : Rp C F y q) (h : pEqB p q = some b) : ∃ d e, Dp C.K H x d ∧ Dp C.K H y e ∧ SeqAt.shaped d = true ∧ SeqAt.shaped e = true ∧ b = PyData.eqv d e := by
  unfold pEqB at h
  split at h
  · rename_i d e h1 h2
    split at h
    · rename_i hs
      rw [Bool.and_eq_true] at hs
      cases h
      exact ⟨d, e, dp_mono sm (dp_of r1 h1), dp_mono sm (dp_of r2 h2), hs.1, hs.2, rfl⟩
    · cases h
  · cases h
theorem d_eq {K : PySem.W.Frag} (hK : K = C.K) : OpD C (rEqD K) pEq := by
  intro F A H σ s x y p q z Q o r1 r2 e k
  unfold pEq at e
  cases h : pEqB p q with
  | none => rw [h] at e; cases e
  | some b =>
    rw [h] at e; cases e
    obtain ⟨d, e, h1, h2, h3, h4, rfl⟩ := eqB_at o.sub r1 r2 h
    rw [hK]
    exact ⟨d, e, h1, h2, h3, h4, k _ F A H o .refl (.bl _)⟩
theorem d_ne {K : PySem.W.Frag} (hK : K = C.K) : OpD C (rNeD K) pNe := by
  intro F A H σ s x y p q z Q o r1 r2 e k
  unfold pNe at e
  cases h : pEqB p q with
  | none => rw [h] at e; cases e
  | some b =>
    rw [h] at e; cases e
    obtain ⟨d, e, h1, h2, h3, h4, rfl⟩ := eqB_at o.sub r1 r2 h
    rw [hK]
    exact ⟨d, e, h1, h2, h3, h4, k _ F A H o .refl (.bl _)⟩
theorem d_is : OpD C (fun x y H Q => y = .non ∧ Q (.bl (decide (x = .non))) H) pIs := by
  intro F A H σ s x y p q z Q o r1 r2 e k
  cases r2 with
  | non =>
    refine ⟨rfl, ?_⟩
    cases r1 with
    | non => cases e; exact k _ F A H o .refl (.bl _)
    | _ => cases e; exact k _ F A H o .refl (.bl _)
  | _ => cases r1 <;> cases e
theorem d_isnot : OpD C (fun x y H Q => y = .non ∧ Q (.bl (!decide (x = .non))) H) pIsNot := by
  intro F A H σ s x y p q z Q o r1 r2 e k
  cases r2 with
  | non =>
    refine ⟨rfl, ?_⟩
    cases r1 with
    | non => cases e; exact k _ F A H o .refl (.bl _)
    | _ => cases e; exact k _ F A H o .refl (.bl _)
  | _ => cases r1 <;> cases e
theorem inB_at {F H : Hp} {p q : PV} {b : Bool} {x y : V} (sm : Same F H) (r1 : Rp C F x p) (r2 : Rp C F y q) (h : pInB p q = some b) : ∃ d ds, Dp C.K H x d ∧ Dp C.K H y (.list ds) ∧ SeqAt.shaped d = true ∧ SeqAt.shaped (.list ds) = true ∧ b = ds.any fun z => PyData.eqv z d := by
  cases r2 with
  | @lst a xs l h1 h2 =>
    have h : (match toD p, toDs l with
    | some d, some ds => if (SeqAt.shaped d && SeqAt.shaped (.list ds)) = true then some (ds.any fun z => PyData.eqv z d) else none
    | _, _ => none) = some b := by cases r1 <;> exact h
    split at h
    · rename_i d ds e1 e2
      split at h
      · rename_i hs
        rw [Bool.and_eq_true] at hs
        cases h
        exact ⟨d, ds, dp_mono sm (dp_of r1 e1), .lst (.of (sm _ _ h1)) (dps_mono sm (dps_of h2 e2)), hs.1, hs.2, rfl⟩
      · cases h
    · cases h
  | _ => cases r1 <;> cases h
theorem d_in {K : PySem.W.Frag} (hK : K = C.K) : OpD C (rInD K) pIn := by
  intro F A H σ s x y p q z Q o r1 r2 e k
  unfold pIn at e
  cases h : pInB p q with
  | none => rw [h] at e; cases e
  | some b =>
    rw [h] at e; cases e
    obtain ⟨d, ds, h1, h2, h3, h4, rfl⟩ := inB_at o.sub r1 r2 h
    rw [hK]
    exact ⟨d, ds, h1, h2, h3, h4, k _ F A H o .refl (.bl _)⟩
theorem d_notin {K : PySem.W.Frag} (hK : K = C.K) : OpD C (rNotInD K) pNotIn := by
  intro F A H σ s x y p q z Q o r1 r2 e k
  unfold pNotIn at e
  cases h : pInB p q with
  | none => rw [h] at e; cases e
  | some b =>
    rw [h] at e; cases e
    obtain ⟨d, ds, h1, h2, h3, h4, rfl⟩ := inB_at o.sub r1 r2 h
    rw [hK]
    exact ⟨d, ds, h1, h2, h3, h4, k _ F A H o .refl (.bl _)⟩
end
end PL

/-! PLS: sum(xs), xs a list of bools. -/
namespace PLS
open PySem PySem.Spec PyProof.Rows L2
theorem wp_ite {M : Model} {A : Around} {α : Type} {c : Prop} [Decidable c] {a b : Sem α} {Q : α → Shared → Prop} {E : Value → Shared → Prop} {s : Shared} (h1 : wpAny M A a Q E s) (h2 : wpAny M A b Q E s) : wpAny M A (if c then a else b) Q E s := by
  by_cases h : c
  · rw [if_pos h]; exact h1
  · rw [if_neg h]; exact h2
section
variable {prog : Program} {w : World} {A : Around} {R : Result → Shared → Prop} {I : Addr} {fp wr : List Addr} {n : Nat} {P : Nat → Value → Prop} {St : Nat → Heap → Prop}
theorem loopB (W : Walks prog w A.in1 I fp wr n P St) (bv : Nat → Bool) (hval : ∀ i v, P i v → v = .bool (bv i)) (S : Addr) (hSf : S ∉ fp) :
    ∀ (k i : Nat) (s : Shared) (tA : Tok) (c : Nat) (stage : Int), (stage = 0 ∨ stage = 2) → n - i = k → i ≤ n → St i s.heap → s.heap.get? S = some { cls := .type "list", dict := none, data := .seq #[.int (preSum (fun i => if bv i = true then 1 else 0) i) tA] c, slots := #[] } →
    (∀ h' tk t', (∀ b o, b ∉ wr → b ≠ S → s.heap.get? b = some o → h'.get? b = some o) → R (.ok (.ret (.int (preSum (fun i => if bv i = true then 1 else 0) n) t'))) { s with heap := h', toks := tk }) →
    codeAny (model prog w) A (.builtin "sum.loop" ⟨[.ref I, .ref S, rawInt stage, rawInt 0], []⟩) R s := by
  have hSw : S ∉ wr := fun h => hSf (W.sub _ h)
  intro k
  induction k with
  | zero =>
    intro i s tA c stage hstage hk hi hst hS hR
    have hin : i = n := by omega
    subst hin
    refine codeAny_builtin F.entry_sum_loop ?_
    rw [Around.under_plainId F.plain_sum_loop _]
    show wpAny _ A.in1 (seqItems? (.ref S) >>= _) _ _ s
    refine wpAny_bind (wpAny_seqItems hS rfl ?_)
    show wpAny _ A.in1 (tryCatch (pyNext (.ref I)) _ >>= _) _ _ s
    refine wpAny_bind (wpAny_tryCatch (W.done s _ _ hst fun h' tk hk' => ?_))
    exact wpAny_pure (hR h' tk tA fun b o hbw _ e => hk' b o hbw e)
  | succ k ih =>
    intro i s tA c stage hstage hk hi hst hS hR
    have hlt : i < n := by omega
    refine codeAny_builtin F.entry_sum_loop ?_
    rw [Around.under_plainId F.plain_sum_loop _]
    show wpAny _ A.in1 (seqItems? (.ref S) >>= _) _ _ s
    refine wpAny_bind (wpAny_seqItems hS rfl ?_)
    show wpAny _ A.in1 (tryCatch (pyNext (.ref I)) _ >>= _) _ _ s
    refine wpAny_bind (wpAny_tryCatch (W.item i s _ _ hlt hst fun v h' tk hP hst' hk' => ?_))
    have ev := hval i v hP
    subst ev
    have hS' := hk' S _ hSw hS
    rcases hstage with rfl | rfl
    · show wpAny _ A.in1 (if (_ : Bool) = true then (mkInt (preSum (fun i => if bv i = true then 1 else 0) i + (if bv i = true then 1 else 0)) >>= _) else _) _ _ _
      refine wp_ite ?_ ?_
      · refine wpAny_bind (wpAny_mkInt ?_)
        show wpAny _ A.in1 (updateSeq S (fun _ => #[.int (preSum (fun i => if bv i = true then 1 else 0) i + (if bv i = true then 1 else 0)) tk]) >>= _) _ _ _
        refine wpAny_bind ?_
        refine wpAny_updateSeq hS' rfl (wpAny_pure ⟨plainId_quiet F.plain_sum_loop _, ih (i + 1) _ tk _ 0 (Or.inl rfl) (by omega) hlt (W.frame _ _ _ hst' fun b hb o e => ?_) (Heap.get?_update_self _ hS' rfl) fun h'' tk'' t'' hk'' => ?_⟩)
        · exact (Heap.get?_update_other _ _ (fun h : S = b => hSf (by rw [h]; exact hb))).trans e
        · exact hR h'' tk'' t'' fun b o hbw hbS e => hk'' b o hbw hbS ((Heap.get?_update_other _ _ (Ne.symm hbS)).trans (hk' b o hbw e))
      · refine wpAny_bind (wpAny_rule ?_)
        refine wpAny_bind (wpAny_attempt (wpAny_holding (PySem.add_int_bool ?_)))
        show wpAny _ A.in1 (updateSeq S (fun _ => #[.int (preSum (fun i => if bv i = true then 1 else 0) i + (if bv i = true then 1 else 0)) tk]) >>= _) _ _ _
        refine wpAny_bind ?_
        refine wpAny_updateSeq hS' rfl ?_
        have hS2 := Heap.get?_update_self (Obj.mapSeq fun _ => #[Value.int (preSum (fun i => if bv i = true then 1 else 0) i + (if bv i = true then 1 else 0)) tk]) hS' rfl
        refine wpAny_bind (wpAny_letGo ?_)
        refine wpAny_bind ?_
        refine wpAny_updateSeq hS2 rfl (wpAny_pure ⟨plainId_quiet F.plain_sum_loop _, ih (i + 1) _ tk _ 2 (Or.inr rfl) (by omega) hlt (W.frame _ _ _ hst' fun b hb o e => ?_) (Heap.get?_update_self _ hS2 rfl) fun h'' tk'' t'' hk'' => ?_⟩)
        · exact (Heap.get?_update_other _ _ (fun h : S = b => hSf (by rw [h]; exact hb))).trans ((Heap.get?_update_other _ _ (fun h : S = b => hSf (by rw [h]; exact hb))).trans e)
        · exact hR h'' tk'' t'' fun b o hbw hbS e => hk'' b o hbw hbS ((Heap.get?_update_other _ _ (Ne.symm hbS)).trans ((Heap.get?_update_other _ _ (Ne.symm hbS)).trans (hk' b o hbw e)))
    · show wpAny _ A.in1 ((holding [Value.bool (bv i)] (binaryOp .Add (.int (preSum (fun i => if bv i = true then 1 else 0) i) tA) (.bool (bv i)))).attempt >>= _) _ _ _
      refine wpAny_bind (wpAny_attempt (wpAny_holding (PySem.add_int_bool ?_)))
      show wpAny _ A.in1 (updateSeq S (fun _ => #[.int (preSum (fun i => if bv i = true then 1 else 0) i + (if bv i = true then 1 else 0)) tk]) >>= _) _ _ _
      refine wpAny_bind ?_
      refine wpAny_updateSeq hS' rfl ?_
      have hS2 := Heap.get?_update_self (Obj.mapSeq fun _ => #[Value.int (preSum (fun i => if bv i = true then 1 else 0) i + (if bv i = true then 1 else 0)) tk]) hS' rfl
      refine wpAny_bind (wpAny_letGo ?_)
      refine wpAny_bind ?_
      refine wpAny_updateSeq hS2 rfl (wpAny_pure ⟨plainId_quiet F.plain_sum_loop _, ih (i + 1) _ tk _ 2 (Or.inr rfl) (by omega) hlt (W.frame _ _ _ hst' fun b hb o e => ?_) (Heap.get?_update_self _ hS2 rfl) fun h'' tk'' t'' hk'' => ?_⟩)
      · exact (Heap.get?_update_other _ _ (fun h : S = b => hSf (by rw [h]; exact hb))).trans ((Heap.get?_update_other _ _ (fun h : S = b => hSf (by rw [h]; exact hb))).trans e)
      · exact hR h'' tk'' t'' fun b o hbw hbS e => hk'' b o hbw hbS ((Heap.get?_update_other _ _ (Ne.symm hbS)).trans ((Heap.get?_update_other _ _ (Ne.symm hbS)).trans (hk' b o hbw e)))
end
section
variable {prog : Program} {w : World} {A : Around} {E : Value → Shared → Prop} {s : Shared}
theorem callB {x : Value} {Q : Value → Shared → Prop}
    (h : wpAny (model prog w) A.in1 (pyIter x) (fun it s₂ => ∃ I fp wr n P St, ∃ bv : Nat → Bool, it = .ref I ∧ Walks prog w A.in1 I fp wr n P St ∧ St 0 s₂.heap ∧ (∀ b ∈ fp, b < s₂.heap.objs.size) ∧
      (∀ i v, P i v → v = .bool (bv i)) ∧
      ∀ h' tk t', (∀ b o, b ∉ wr → s₂.heap.get? b = some o → h'.get? b = some o) → Q (.int (preSum (fun i => if bv i = true then 1 else 0) n) t') { s₂ with heap := h', toks := tk }) E s) :
    wpAny (model prog w) A (call (.builtin "sum") [x]) Q E s := by
  refine call_function_tree F.kind_sum F.plain_sum F.entry_sum (F.args_sum1 _) ?_
  unfold Builtin.«sum»
  simp only [List.length_cons, List.length_nil]
  rw [if_neg (by decide)]
  refine wpAny_bind (wpAny_of_eq (show Builtin.Builtins.bindParams "sum" ["start"] 0 { } = pure [none] from rfl) ?_)
  refine wpAny_bind (wpAny_mono h (fun it s₂ h₂ => ?_) fun _ _ e => e)
  obtain ⟨I, fp, wr, n, P, St, bv, rfl, W, hst, hfp, hval, hQ⟩ := h₂
  refine wpAny_bind (wpAny_mkInt ?_)
  refine wpAny_bind (wpAny_pure ?_)
  simp only [List.forIn_cons, List.forIn_nil]
  refine wpAny_bind (wpAny_bind (wpAny_bind (wpAny_isInstance (T := "int") (b := false) (typeIs_int _ _ _) PySem.sub_int_str ?_)))
  simp only [Bool.false_eq_true, if_false]
  refine wpAny_pure (wpAny_bind (wpAny_bind (wpAny_isInstance (T := "int") (b := false) (typeIs_int _ _ _) PySem.sub_int_bytes ?_)))
  simp only [Bool.false_eq_true, if_false]
  refine wpAny_pure (wpAny_bind (wpAny_bind (wpAny_isInstance (T := "int") (b := false) (typeIs_int _ _ _) PySem.sub_int_bytearray ?_)))
  simp only [Bool.false_eq_true, if_false]
  refine wpAny_pure (wpAny_pure ?_)
  refine wpAny_bind (wpAny_newObj_type ?_)
  have hSf : s₂.heap.objs.size ∉ fp := fun hm => Nat.lt_irrefl _ (hfp _ hm)
  refine wpAny_pure ⟨plainId_quiet F.plain_sum_loop _, loopB W bv hval s₂.heap.objs.size hSf n 0 _ s₂.toks 0 0 (Or.inl rfl) rfl (Nat.zero_le _)
    (W.frame _ _ _ hst fun b _ o e => Heap.get?_push_of_some _ e) (Heap.get?_push_size _ rfl) fun h' tk t' hk => ?_⟩
  exact hQ h' tk t' fun b o hbw e => hk b o hbw (Nat.ne_of_lt (Heap.lt_size e)) (Heap.get?_push_of_some _ e)
theorem iter_lst {l : Addr} {xs : Array Value} {Q : Value → Shared → Prop} (hl : s.heap.IsList l xs)
    (h : ∀ s₂ : Shared, s₂ = { s with heap := s.heap.push { cls := .type "list_iterator", data := .fields #[.ref l, .int 0 0] } } →
      (s₂.heap.IsListIter s.heap.objs.size l 0 ∧ s₂.heap.IsList l xs) → (∀ b ∈ [s.heap.objs.size, l], b < s₂.heap.objs.size) → l ≠ s.heap.objs.size → Q (.ref s.heap.objs.size) s₂) :
    wpAny (model prog w) A (pyIter (.ref l)) Q E s := by
  have hlt : l < s.heap.objs.size := by obtain ⟨_, e, _⟩ := hl; exact Heap.lt_size e
  refine wpAny_pyIter_list hl (h _ rfl ⟨⟨_, Heap.get?_push_size _ rfl, rfl, rfl⟩, hl.push _⟩ (fun b hb => ?_) (Nat.ne_of_lt hlt))
  show b < (s.heap.push _).objs.size
  rw [Heap.size_push]
  rcases List.mem_cons.mp hb with rfl | hb
  · exact Nat.lt_succ_self _
  · rcases List.mem_cons.mp hb with rfl | hb
    · exact Nat.lt_succ_of_lt hlt
    · cases hb
theorem preSumB : ∀ (bs : List Bool) (j : Nat), preSum (fun i => if bs.getD i false = true then 1 else 0) j = ((bs.take j).count true : Nat)
  | bs, 0 => by simp [preSum]
  | bs, j + 1 => by
    rw [preSum, preSumB bs j, List.take_add_one, List.count_append, List.getD_eq_getElem?_getD]
    cases h : bs[j]? with
    | none => simp
    | some b => cases b <;> simp
theorem sum_raw {l : Addr} {bs : List Bool} {Q : Value → Shared → Prop} (hh : A.handled = none) (hl : s.heap.IsList l (bs.map Value.bool).toArray)
    (h : ∀ h' tk t', (∀ b o, s.heap.get? b = some o → h'.get? b = some o) → Q (.int (bs.count true : Nat) t') { s with heap := h', toks := tk }) :
    wpAny (model prog w) A (call (.builtin "sum") [.ref l]) Q E s := by
  refine callB (iter_lst hl fun s₂ e st hfp hlI => ?_)
  subst e
  refine ⟨_, _, _, _, _, _, fun i => bs.getD i false, rfl, Walks.list (A := A.in1) hh _ l hlI (bs.map Value.bool).toArray, st, hfp, (fun i v hv => ?_), fun h' tk t' hk => ?_⟩
  · simp only [List.getElem?_toArray, List.getElem?_map, Option.map_eq_some_iff] at hv
    obtain ⟨b, h1, h2⟩ := hv
    rw [← h2]
    show Value.bool b = Value.bool (bs.getD i false)
    rw [List.getD_eq_getElem?_getD, h1]
    rfl
  · have := h h' tk t' (old_kept hk)
    rw [preSumB, List.take_of_length_le (by simp)]
    exact this
end
theorem vals_bools : ∀ {bs : List Bool} {us : List Value}, Vals (bs.map V.bl) us → us = bs.map Value.bool
  | [], _, .nil => rfl
  | b :: bs, _, .cons r t => by
    cases r
    rw [vals_bools t]; rfl
section
variable {X : Cx}
/-- sum(xs) of a list of ints, or of bools -/
def rSum2 (K : PySem.W.Frag) : List V → Hp → VK → Prop := fun vs H Q => rSum K vs H Q ∨ ∃ (a : Addr) (bs : List Bool), vs = [V.ref a] ∧ SqL K H a (bs.map V.bl) ∧ Q (.int (bs.count true : Nat)) H
theorem cr_sum2 (hc : X.calm = true) : CallR X (.builtin "sum") (rSum2 X.K) := by
  intro pins s σ H vs us Q I r h
  rcases h with h | ⟨a, bs, rfl, hs, q⟩
  · exact cr_sum hc pins s σ H vs us Q I r h
  · obtain ⟨its, rv, hl, _⟩ := I.list hs
    rw [Vals.ref1 r]
    have e := vals_bools rv
    subst e
    exact sum_raw (I.ok.hd hc) hl.isList fun h' tk t' hk => ⟨.int _, H, I.kept hk, ⟨_, rfl⟩, q⟩
end
end PLS

/-! PL9: subscripts, slices, objects that are changed, built-ins. -/
namespace PL
open PySem PySem.Spec PyProof.Rows L2

def getM (s : Stt) (i : Nat) : Option (MKey × MO) := match keyOf s i with
  | some k => (getK s k).map fun m => (k, m)
  | none => none
section
variable {C : Fx} {F H : Hp} {A : Nat → List Addr} {σ : L2.St} {s : Stt}
theorem mut_at (o : OkF C F A H σ s) {i : Nat} {k : MKey} {m : MO} (h : getM s i = some (k, m)) : getK s k = some m ∧ σ[i]? = some (some (.ref (adr σ C k))) ∧ MAt C F H (adr σ C k) (fpr A C k) m := by
  unfold getM at h
  cases e : keyOf s i with
  | none => rw [e] at h; cases h
  | some k' =>
    have h : (getK s k').map (fun m => (k', m)) = some (k, m) := by rw [e] at h; exact h
    cases e2 : getK s k' with
    | none => rw [e2] at h; cases h
    | some m' =>
      rw [e2] at h
      cases h
      refine ⟨e2, ?_, (key_at o e2).1⟩
      unfold keyOf at e
      split at e
      · cases e; exact (key_at o e2).2.2.1 i rfl
      · rename_i q hq
        cases e; exact (o.lent i q hq).1
      · cases e
/-- an object of the state is changed -/
theorem OkF.upd (o : OkF C F A H σ s) {k : MKey} {m m2 : MO} {H2 : Hp} (hk : getK s k = some m) (hH : ∀ b, b ∉ fpr A C k → H2 b = H b) (hN : ∀ b, b ∈ fpr A C k → H2 b ≠ none) (hM : MAt C F H2 (adr σ C k) (fpr A C k) m2) :
    OkF C F A H2 σ (setK s k m2) ∧ Step C F A H F A H2 := by
  obtain ⟨m0, hfr, hadr, hnb⟩ := key_at o hk
  have e1 : setAll s [k] [m2] = setK s k m2 := rfl
  have out : ∀ k', (∀ q, k' = MKey.inr q → q < C.nb) → k' ≠ k → ∀ b x, b ∈ fpr A C k' → H b = some x → H2 b = some x := fun k' hq ne b x hb hx => by
    rw [hH b (fun z => ne (key_dis o hq hnb hb z))]
    exact hx
  have inr_lt : ∀ (q : Nat) (m : MO), s.mu[q]? = some m → q < C.nb := fun q m e => by rw [← o.nb]; exact (List.getElem?_eq_some_iff.mp e).1
  have there : ∀ b, H b ≠ none → H2 b ≠ none := fun b hb => by
    by_cases hm : b ∈ fpr A C k
    · exact hN b hm
    · rw [hH b hm]; exact hb
  rw [← e1]
  refine ⟨⟨?_, fun b u e => ?_, fun i v e => ?_, fun i m e => ?_, ?_, fun i q e => ?_, fun q m e => ?_, fun i b hb => ?_, o.dis, o.freeB, o.disB⟩, ⟨fun _ _ h => h, fun _ h => .inl h, fun _ h => .inl h, fun b u e n1 n2 => ?_, there⟩⟩
  · rw [(setAll_lens [k] [m2] s).1]; exact o.len
  · rw [hH b (fun z => by rw [(hfr b z).1] at e; cases e)]
    exact o.sub b u e
  · rcases setAll_ro [k] [m2] s rfl i _ e with ⟨j, m, h1, h2, h3⟩ | ⟨h1, h2⟩
    · cases h3
    · exact o.val i v h1
  · rcases setAll_ro [k] [m2] s rfl i _ e with ⟨j, m', h1, h2, h3⟩ | ⟨h1, h2⟩
    · cases h3
      cases j with
      | succ j => simp at h1
      | zero =>
        simp at h1 h2
        subst h1 h2
        exact ⟨_, hadr i rfl, hM⟩
    · obtain ⟨p, h3, h4⟩ := o.own i m h1
      exact ⟨p, h3, h4.keep (fun _ _ h => h) (out (.inl i) (fun q z => by cases z) (fun z => h2 (by rw [z]; exact List.mem_cons_self)))⟩
  · rw [(setAll_lens [k] [m2] s).2]; exact o.nb
  · rcases setAll_ro [k] [m2] s rfl i _ e with ⟨j, m', h1, h2, h3⟩ | ⟨h1, h2⟩
    · cases h3
    · exact o.lent i q h1
  · rcases setAll_mu [k] [m2] s rfl q _ e with ⟨j, h1, h2⟩ | ⟨h1, h2⟩
    · cases j with
      | succ j => simp at h1
      | zero =>
        simp at h1 h2
        subst h1 h2
        exact hM
    · exact (o.bor q m h1).keep (fun _ _ h => h) (out (.inr q) (fun q' z => by cases z; exact inr_lt q m h1) (fun z => h2 (by rw [z]; exact List.mem_cons_self)))
  · obtain ⟨h1, h2⟩ := o.free i b hb
    exact ⟨h1, there b h2⟩
  · rw [hH b (fun z => ?_)]
    · exact e
    · cases k with
      | inl i => exact n1 ⟨i, z⟩
      | inr q => exact n2 ⟨q, hnb q rfl, z⟩
/-- a list of the state gets new items -/
theorem OkF.updL (o : OkF C F A H σ s) {k : MKey} {l l2 : List PV} {ys : List V} (hk : getK s k = some (.lst l)) (r : Rps C F ys l2) :
    OkF C F A (L2.upd H (adr σ C k) (.lst ys)) σ (setK s k (.lst l2)) ∧ Step C F A H F A (L2.upd H (adr σ C k) (.lst ys)) := by
  obtain ⟨⟨hf, xs, hx, hr⟩, _⟩ := key_at o hk
  refine o.upd hk (fun b hb => upd_ne (fun e => hb (by rw [hf, e]; exact List.mem_cons_self))) (fun b hb => ?_) ⟨hf, ys, upd_same, r⟩
  rw [hf, List.mem_singleton] at hb
  subst hb
  rw [upd_same]; simp
end

/-! ### subscripts -/
def pIx : PV → PV → Option PV
  | .lst l, .int i => atI l i
  | .tup l, .int i => atI l i
  | .scr l, .int i => atI l i
  | .str z, .int i => if z.length ≤ 16777216 then (atI z.cps.toList i).map fun c => .str ⟨#[c]⟩ else none
  | _, _ => none
theorem Rps.atI {C : Fx} {F : Hp} {xs : List V} {l : List PV} {i : Int} {p : PV} (r : Rps C F xs l) (h : atI l i = some p) : ∃ v, L2.atI xs i = some v ∧ Rp C F v p := by
  unfold L2.atI at h ⊢
  rw [r.length]
  cases e : ixN l.length i with
  | none => rw [e] at h; cases h
  | some j =>
    rw [e] at h
    obtain ⟨v, h1, h2⟩ := r.get h
    exact ⟨v, h1, h2⟩
section
variable {X : Cx} {C : Fx} {W : WX} {a b e : Expr} {pos : Pos} {fa fb fe : Stt → Res PV}
theorem d_ix {K : PySem.W.Frag} (hK : K = C.K) : OpD C (rIx K) pIx := by
  intro F A H σ s x y p q z Q o r1 r2 e k
  unfold pIx at e
  split at e
  · cases r2
    cases r1 with
    | @lst a xs l h1 h2 =>
      obtain ⟨v, h3, h4⟩ := h2.atI e
      exact .inl ⟨a, xs, _, v, rfl, rfl, .of (o.sub _ _ h1), h3, k _ F A H o .refl h4⟩
  · cases r2
    cases r1 with
    | @tup a xs l h1 h2 =>
      obtain ⟨v, h3, h4⟩ := h2.atI e
      exact .inr (.inl ⟨a, xs, _, v, rfl, rfl, by rw [hK]; exact sqT_mono o.sub h1, h3, k _ F A H o .refl h4⟩)
  · cases r2
    cases r1 with
    | @scr a xs l h1 h2 =>
      obtain ⟨v, h3, h4⟩ := h2.atI e
      exact .inl ⟨a, xs, _, v, rfl, rfl, by rw [hK]; exact o.sub.seq h1, h3, k _ F A H o .refl h4⟩
  · split at e
    · rename_i hl
      cases r2
      cases r1
      cases h : atI (α := Nat) _ _ with
      | none => rw [h] at e; cases e
      | some c =>
        rw [h] at e; cases e
        exact .inr (.inr ⟨_, _, c, rfl, rfl, line_le hl, h, k _ F A H o .refl (.str _)⟩)
    · cases e
  · cases e
theorem dv_ix (hK : X.K = C.K) (ha : DV X C W a fa) (hb : DV X C W b fb) (hs : PlainIx b) : DV X C W (.Subscript a b pos) (eBin pIx fa fb) := by
  obtain ⟨ta, pa, qa⟩ := ha.pr
  obtain ⟨tb, pb, qb⟩ := hb.pr
  exact ⟨_, pe_ix ix_seq pa pb hs, opPost (d_ix hK) qa qb⟩
/-- an item of an object that is changed -/
def eIxM (i : Nat) (fb : Stt → Res PV) : Stt → Res PV := fun s => (getM s i).elim .stuck fun _ => (fb s).bind fun q s1 => match getM s1 i with
  | some (_, .lst l) => Res.opt s1 (pIx (.lst l) q)
  | _ => .stuck
theorem dv_ixM (i : Nat) {x : Str} {p : Pos} (hb : DV X C W b fb) (hs : PlainIx b) (hN : X.N[i]? = some x := by rfl) (hv : Vis X.env.scope x := by first | exact Or.inl rfl | exact Or.inr (Or.inl rfl) | exact Or.inr (Or.inr rfl)) (hd : (x == ("__debug__" : Str)) = false := by decide)
    (hcd : (x == ("__classdict__" : Str)) = false := by decide) : DV X C W (.Subscript (.Name x p) b pos) (eIxM i fb) := by
  obtain ⟨tb, pb, qb⟩ := hb.pr
  refine ⟨_, pe_ix ix_list (pe_var hN hv hd hcd) pb hs, fun F A H σ s Q o pp => ?_⟩
  unfold eIxM at pp
  cases e0 : getM s i with
  | none => rw [e0] at pp; exact pp.elim
  | some km =>
    rw [e0] at pp
    obtain ⟨_, h1, _⟩ := mut_at o (k := km.1) (m := km.2) e0
    refine ⟨_, h1, ?_⟩
    have pp : Post C W (RV C) F A H σ ((fb s).bind fun q s1 => match getM s1 i with
      | some (_, .lst l) => Res.opt s1 (pIx (.lst l) q)
      | _ => .stuck) Q := pp
    refine qb F A H σ s _ o (pp.seq fun q s1 v F1 A1 H1 _ o1 st1 r1 p1 => ?_)
    split at p1
    · rename_i k l e1
      obtain ⟨g1, g2, g3⟩ := mut_at o1 e1
      obtain ⟨z, e2, kk⟩ := Post.opt p1
      obtain ⟨_, xs, hx, hr⟩ := g3
      rw [h1] at g2
      have ea : adr σ C km.1 = adr σ C k := V.ref.inj (Option.some.inj (Option.some.inj g2))
      have e2' : pIx (.lst l) q = some z := e2
      unfold pIx at e2'
      split at e2'
      · rename_i l' i' ee _
        cases ee
        cases r1
        obtain ⟨u, h3, h4⟩ := hr.atI e2'
        exact ⟨_, xs, _, u, rfl, rfl, by rw [ea]; exact .of hx, h3, kk u F1 A1 H1 o1 .refl h4⟩
      · rename_i ee _; cases ee
      · rename_i ee _; cases ee
      · rename_i ee _; cases ee
      · cases e2'
    · exact p1.elim
/-- x[i] = v, x an object that is changed -/
def gSetIx (i : Nat) (fv fi : Stt → Res PV) : Stt → Fl := fun s => (fv s).fl fun p s1 => (getM s1 i).elim .stuck fun _ => (fi s1).fl fun q s2 => match q, getM s2 i with
  | .int j, some (k, .lst l) => match ixN l.length j with
    | some n => .nx (setK s2 k (.lst (l.set n p)))
    | none => .stuck
  | _, _ => .stuck
theorem ds_setIx (i : Nat) {x : Str} {p p2 : Pos} {v : Expr} {fv : Stt → Res PV} (hv : DV X C W v fv) (hb : DV X C W b fb) (hN : X.N[i]? = some x := by rfl) (hvis : Vis X.env.scope x := by first | exact Or.inl rfl | exact Or.inr (Or.inl rfl) | exact Or.inr (Or.inr rfl)) (hd : (x == ("__debug__" : Str)) = false := by decide)
    (hcd : (x == ("__classdict__" : Str)) = false := by decide) (hs : swapsWithSole [.Subscript (.Name x p) b p2] v pos.line X.env = pure false := by rfl) (hw : swappedStores [.Subscript (.Name x p) b p2] v X.env = pure none := by rfl)
    (h1 : (assignEach [.Subscript (.Name x p) b p2] X.env).map (·.2) = [assign (.Subscript (.Name x p) b p2) X.env] := by rfl) (hsub : ∀ ti, PE X b ti → PG X (.Subscript (.Name x p) b p2) (gSub (tVar i) ti rSetL) := by intro ti h; exact pg_sub (pv _) h set_list) : DS X C W (.Assign [.Subscript (.Name x p) b p2] v pos) (gSetIx i fv fb) := by
  obtain ⟨tv, pv, qv⟩ := hv.pr
  obtain ⟨tb, pb, qb⟩ := hb.pr
  refine ⟨_, ps_asg pv (hsub tb pb) hs hw h1, fun F A H σ s D o pp => ?_⟩
  refine qv F A H σ s _ o (PostS.seq pp fun pv s1 xv F1 A1 H1 _ o1 st1 r1 p1 => ?_)
  cases e0 : getM s1 i with
  | none => rw [e0] at p1; exact p1.elim
  | some km =>
    rw [e0] at p1
    obtain ⟨_, g0, _⟩ := mut_at o1 (k := km.1) (m := km.2) e0
    refine ⟨_, g0, ?_⟩
    refine qb F1 A1 H1 σ s1 _ o1 (PostS.seq p1 fun q s2 xq F2 A2 H2 _ o2 st2 r2 p2 => ?_)
    cases q with
    | int j =>
      cases e1 : getM s2 i with
      | none => simp only [e1] at p2; exact p2.elim
      | some km2 =>
        obtain ⟨k, m⟩ := km2
        simp only [e1] at p2
        cases m with
        | lst l =>
          simp only at p2
          cases e2 : ixN l.length j with
          | none => rw [e2] at p2; exact p2.elim
          | some n =>
            rw [e2] at p2
            obtain ⟨g1, g2, g3⟩ := mut_at o2 e1
            obtain ⟨_, xs, hx, hr⟩ := g3
            rw [g0] at g2
            have ea : adr σ C km.1 = adr σ C k := V.ref.inj (Option.some.inj (Option.some.inj g2))
            cases r2
            refine ⟨_, xs, j, n, rfl, rfl, by rw [ea]; exact hx, by rw [hr.length]; exact e2, ?_⟩
            rw [ea]
            obtain ⟨o3, st3⟩ := o2.updL g1 (Rps.set (r1.mono st2.s1) n hr)
            exact p2 _ _ _ _ o3 st3
        | _ => exact p2.elim
    | _ => exact p2.elim
/-! ### slices -/
def pCut (l : List PV) (lo hi : Option Int) : List PV := (l.drop (HT.sIx l.length 0 lo)).take (HT.sIx l.length l.length hi - HT.sIx l.length 0 lo)
theorem Rps.cut {F : Hp} {xs : List V} {l : List PV} (r : Rps C F xs l) (lo hi : Option Int) : Rps C F (cutV xs lo hi) (pCut l lo hi) := by
  unfold cutV pCut
  rw [r.length]
  exact (r.drop _).take _
structure DP (X : Cx) (C : Fx) (W : WX) (e : Option Expr) (f : Stt → Res (Option Int)) : Prop where
  pr : ∃ te, PO X e te ∧ ∀ F A H σ s Q, OkF C F A H σ s → Post C W (fun _ _ (a b : Option Int) => a = b) F A H σ (f s) Q → te σ H Q
def pNo : Stt → Res (Option Int) := fun s => .ok none s
def pSo (f : Stt → Res PV) : Stt → Res (Option Int) := fun s => (f s).bind fun p s1 => match p with
  | .int i => .ok (some i) s1
  | _ => .stuck
theorem dp_none : DP X C W none pNo := ⟨_, po_none, fun F A H σ s Q o p => Post.now o p rfl⟩
theorem dp_some (h : DV X C W e fe) : DP X C W (some e) (pSo fe) := by
  obtain ⟨te, pe, qe⟩ := h.pr
  refine ⟨_, po_some pe, fun F A H σ s Q o p => ?_⟩
  refine qe F A H σ s _ o (p.seq fun q s1 v F1 A1 H1 _ o1 st1 r1 p1 => ?_)
  cases r1 with
  | int i => exact ⟨i, rfl, Post.now o1 p1 rfl⟩
  | _ => exact p1.elim
def oSlL (fa : Stt → Res PV) (fl fh : Stt → Res (Option Int)) : Stt → Res MO := fun s => (fa s).bind fun p s1 => (fl s1).bind fun lo s2 => (fh s2).bind fun hi s3 => match p with
  | .lst l => .ok (.lst (pCut l lo hi)) s3
  | .scr l => .ok (.lst (pCut l lo hi)) s3
  | _ => .stuck
theorem do_slL {lo hi : Option Expr} {fl fh : Stt → Res (Option Int)} {p2 : Pos} (hK : X.K = C.K) (ha : DV X C W a fa) (hl : DP X C W lo fl) (hh : DP X C W hi fh) : DO X C W (.Subscript a (.Slice lo hi none p2) pos) (oSlL fa fl fh) := by
  obtain ⟨ta, pa, qa⟩ := ha.pr
  obtain ⟨tl, pl, ql⟩ := hl.pr
  obtain ⟨th, ph, qh⟩ := hh.pr
  refine ⟨_, pe_slice sl_list pa pl ph, fun F A H σ s Q o p => ?_⟩
  refine qa F A H σ s _ o (PostO.seq p fun q1 s1 v1 F1 A1 H1 _ o1 st1 r1 p1 => ?_)
  refine ql F1 A1 H1 σ s1 _ o1 (PostO.seq p1 fun l2 s2 v2 F2 A2 H2 _ o2 st2 r2 p2 => ?_)
  refine qh F2 A2 H2 σ s2 _ o2 (PostO.seq p2 fun l3 s3 v3 F3 A3 H3 _ o3 st3 r3 p3 => ?_)
  have r2 : v2 = l2 := r2
  have r3 : v3 = l3 := r3
  subst r2 r3
  have rm := r1.mono (st2.s1.trans st3.s1)
  cases rm with
  | @lst b xs l h1 h2 =>
    refine ⟨b, xs, rfl, .of (o3.sub _ _ h1), fun q hq => ?_⟩
    obtain ⟨o4, st4, f4⟩ := o3.fresh (u := .lst (cutV xs v2 v3)) (m := .lst (pCut l v2 v3)) hq ⟨rfl, _, upd_same, h2.cut v2 v3⟩
    exact p3 q _ _ _ o4 st4 f4
  | @scr b xs l h1 h2 =>
    refine ⟨b, xs, rfl, by rw [hK]; exact o3.sub.seq h1, fun q hq => ?_⟩
    obtain ⟨o4, st4, f4⟩ := o3.fresh (u := .lst (cutV xs v2 v3)) (m := .lst (pCut l v2 v3)) hq ⟨rfl, _, upd_same, h2.cut v2 v3⟩
    exact p3 q _ _ _ o4 st4 f4
  | _ => exact p3.elim
def eSlT (fa : Stt → Res PV) (fl fh : Stt → Res (Option Int)) : Stt → Res PV := fun s => (fa s).bind fun p s1 => (fl s1).bind fun lo s2 => (fh s2).bind fun hi s3 => match p with
  | .tup l => .ok (.tup (pCut l lo hi)) s3
  | _ => .stuck
theorem dv_slT {lo hi : Option Expr} {fl fh : Stt → Res (Option Int)} {p2 : Pos} (hK : X.K = C.K) (ha : DV X C W a fa) (hl : DP X C W lo fl) (hh : DP X C W hi fh) : DV X C W (.Subscript a (.Slice lo hi none p2) pos) (eSlT fa fl fh) := by
  obtain ⟨ta, pa, qa⟩ := ha.pr
  obtain ⟨tl, pl, ql⟩ := hl.pr
  obtain ⟨th, ph, qh⟩ := hh.pr
  refine ⟨_, pe_slice sl_tupA pa pl ph, fun F A H σ s Q o p => ?_⟩
  refine qa F A H σ s _ o (p.seq fun q1 s1 v1 F1 A1 H1 _ o1 st1 r1 p1 => ?_)
  refine ql F1 A1 H1 σ s1 _ o1 (p1.seq fun l2 s2 v2 F2 A2 H2 _ o2 st2 r2 p2 => ?_)
  refine qh F2 A2 H2 σ s2 _ o2 (p2.seq fun l3 s3 v3 F3 A3 H3 _ o3 st3 r3 p3 => ?_)
  have r2 : v2 = l2 := r2
  have r3 : v3 = l3 := r3
  subst r2 r3
  have rm := r1.mono (st2.s1.trans st3.s1)
  cases rm with
  | @tup b xs l h1 h2 =>
    refine ⟨b, xs, rfl, by rw [hK]; exact sqT_mono o3.sub h1, fun hw => ?_, fun _ q hq => ?_⟩
    · have e : cutV xs v2 v3 = xs := by
        unfold cutV
        rw [hw.1, hw.2]
        simp
      have rc := h2.cut v2 v3
      rw [e] at rc
      exact p3 _ F3 A3 H3 o3 .refl (.tup h1 rc)
    · obtain ⟨o4, st4⟩ := o3.alloc (o := .tup (cutV xs v2 v3)) hq
      exact p3 _ _ _ _ o4 st4 (.tup (.of upd_same) ((h2.cut v2 v3).mono st4.s1))
  | _ => exact p3.elim
end

/-! ### built-ins -/
def pAbs : List PV → Option PV
  | [.int i] => some (.int (if i < 0 then -i else i))
  | _ => none
def pMax2 : List PV → Option PV
  | [.int i, .int j] => some (.int (if j > i then j else i))
  | _ => none
def pMin2 : List PV → Option PV
  | [.int i, .int j] => some (.int (if j < i then j else i))
  | _ => none
def pLen : List PV → Option PV
  | [.lst l] => some (.int l.length)
  | [.tup l] => some (.int l.length)
  | [.scr l] => some (.int l.length)
  | [.str z] => if z.length ≤ 16777216 then some (.int z.length) else none
  | _ => none
def pInt1 : List PV → Option PV
  | [.int i] => some (.int i)
  | [.bl b] => some (.int (if b then 1 else 0))
  | _ => none
def allInt : List PV → Option (List Int)
  | [] => some []
  | .int i :: r => (allInt r).map (i :: ·)
  | _ :: _ => none
def allBl : List PV → Option (List Bool)
  | [] => some []
  | .bl i :: r => (allBl r).map (i :: ·)
  | _ :: _ => none
theorem allInt_eq : ∀ {l : List PV} {ns : List Int}, allInt l = some ns → l = ns.map PV.int
  | [], ns, h => by cases h; rfl
  | .int i :: r, ns, h => by
    unfold allInt at h
    cases e : allInt r with
    | none => rw [e] at h; cases h
    | some ms => rw [e] at h; cases h; rw [allInt_eq e]; rfl
  | .non :: _, _, h => by cases h
  | .bl _ :: _, _, h => by cases h
  | .str _ :: _, _, h => by cases h
  | .tup _ :: _, _, h => by cases h
  | .lst _ :: _, _, h => by cases h
  | .scr _ :: _, _, h => by cases h
  | .ins _ _ :: _, _, h => by cases h
theorem allBl_eq : ∀ {l : List PV} {ns : List Bool}, allBl l = some ns → l = ns.map PV.bl
  | [], ns, h => by cases h; rfl
  | .bl i :: r, ns, h => by
    unfold allBl at h
    cases e : allBl r with
    | none => rw [e] at h; cases h
    | some ms => rw [e] at h; cases h; rw [allBl_eq e]; rfl
  | .non :: _, _, h => by cases h
  | .int _ :: _, _, h => by cases h
  | .str _ :: _, _, h => by cases h
  | .tup _ :: _, _, h => by cases h
  | .lst _ :: _, _, h => by cases h
  | .scr _ :: _, _, h => by cases h
  | .ins _ _ :: _, _, h => by cases h
theorem Rps.bls {C : Fx} {F : Hp} : ∀ {vs : List V} {ns : List Bool}, Rps C F vs (ns.map PV.bl) → vs = ns.map V.bl
  | [], [], _ => rfl
  | _ :: _, n :: ns, .cons (.bl _) r => by rw [List.map_cons, Rps.bls (ns := ns) r]
def pSum : List PV → Option PV
  | [.lst l] => match allInt l with
    | some ns => some (.int ns.sum)
    | none => (allBl l).map fun bs => .int (bs.count true : Nat)
  | _ => none
def pAny : List PV → Option PV
  | [.lst l] => (allBl l).map fun ns => .bl (ns.any id)
  | _ => none
def pAll : List PV → Option PV
  | [.lst l] => (allBl l).map fun ns => .bl (ns.all id)
  | _ => none
def maxI : List Int → Int
  | [] => 0
  | [x] => x
  | x :: r => max x (maxI r)
def minI : List Int → Int
  | [] => 0
  | [x] => x
  | x :: r => min x (minI r)
theorem maxI_mem : ∀ {l : List Int}, l ≠ [] → maxI l ∈ l ∧ ∀ y ∈ l, y ≤ maxI l
  | [], h => absurd rfl h
  | [x], _ => ⟨List.mem_cons_self, fun y hy => by rw [List.mem_singleton] at hy; subst hy; exact Int.le_refl _⟩
  | x :: y :: r, _ => by
    obtain ⟨h1, h2⟩ := maxI_mem (l := y :: r) (by simp)
    have e : maxI (x :: y :: r) = max x (maxI (y :: r)) := rfl
    rw [e]
    refine ⟨?_, fun z hz => ?_⟩
    · by_cases h : x ≤ maxI (y :: r)
      · rw [Int.max_eq_right h]; exact List.mem_cons_of_mem _ h1
      · rw [Int.max_eq_left (by omega)]; exact List.mem_cons_self
    · rcases List.mem_cons.mp hz with q | q
      · subst q; exact Int.le_max_left _ _
      · exact Int.le_trans (h2 z q) (Int.le_max_right _ _)
theorem minI_mem : ∀ {l : List Int}, l ≠ [] → minI l ∈ l ∧ ∀ y ∈ l, minI l ≤ y
  | [], h => absurd rfl h
  | [x], _ => ⟨List.mem_cons_self, fun y hy => by rw [List.mem_singleton] at hy; subst hy; exact Int.le_refl _⟩
  | x :: y :: r, _ => by
    obtain ⟨h1, h2⟩ := minI_mem (l := y :: r) (by simp)
    have e : minI (x :: y :: r) = min x (minI (y :: r)) := rfl
    rw [e]
    refine ⟨?_, fun z hz => ?_⟩
    · by_cases h : x ≤ minI (y :: r)
      · rw [Int.min_eq_left h]; exact List.mem_cons_self
      · rw [Int.min_eq_right (by omega)]; exact List.mem_cons_of_mem _ h1
    · rcases List.mem_cons.mp hz with q | q
      · subst q; exact Int.min_le_left _ _
      · exact Int.le_trans (Int.min_le_right _ _) (h2 z q)
def pMax1 : List PV → Option PV
  | [.lst l] => match allInt l with
    | some (x :: r) => some (.int (maxI (x :: r)))
    | _ => none
  | _ => none
def pMin1 : List PV → Option PV
  | [.lst l] => match allInt l with
    | some (x :: r) => some (.int (minI (x :: r)))
    | _ => none
  | _ => none
section
variable {X : Cx} {C : Fx}
theorem rps1 {F : Hp} {x : List V} {p : PV} (r : Rps C F x [p]) : ∃ v, x = [v] ∧ Rp C F v p := by
  cases r with
  | cons h t => cases t; exact ⟨_, rfl, h⟩
theorem rps2 {F : Hp} {x : List V} {p q : PV} (r : Rps C F x [p, q]) : ∃ v u, x = [v, u] ∧ Rp C F v p ∧ Rp C F u q := by
  cases r with
  | cons h t =>
    obtain ⟨u, rfl, hu⟩ := rps1 t
    exact ⟨_, u, rfl, h, hu⟩
theorem c_abs : CallD C (fun xs H Q => ∃ i, xs = [.int i] ∧ Q (.int (if i < 0 then -i else i)) H) pAbs := by
  intro F A H σ s x p z Q o r e k
  unfold pAbs at e
  split at e
  · cases e
    obtain ⟨v, rfl, h⟩ := rps1 r
    cases h
    exact ⟨_, rfl, k _ F A H o .refl (.int _)⟩
  · cases e
theorem c_max2 : CallD C (fun xs H Q => ∃ i j, xs = [.int i, .int j] ∧ Q (.int (if j > i then j else i)) H) pMax2 := by
  intro F A H σ s x p z Q o r e k
  unfold pMax2 at e
  split at e
  · cases e
    obtain ⟨v, u, rfl, h, h'⟩ := rps2 r
    cases h; cases h'
    exact ⟨_, _, rfl, k _ F A H o .refl (.int _)⟩
  · cases e
theorem c_min2 : CallD C (fun xs H Q => ∃ i j, xs = [.int i, .int j] ∧ Q (.int (if j < i then j else i)) H) pMin2 := by
  intro F A H σ s x p z Q o r e k
  unfold pMin2 at e
  split at e
  · cases e
    obtain ⟨v, u, rfl, h, h'⟩ := rps2 r
    cases h; cases h'
    exact ⟨_, _, rfl, k _ F A H o .refl (.int _)⟩
  · cases e
theorem c_int1 : CallD C (fun xs H Q => (∃ i, xs = [.int i] ∧ Q (.int i) H) ∨ ∃ k, xs = [.bl k] ∧ Q (.int (if k then 1 else 0)) H) pInt1 := by
  intro F A H σ s x p z Q o r e k
  unfold pInt1 at e
  split at e
  · cases e
    obtain ⟨v, rfl, h⟩ := rps1 r
    cases h
    exact .inl ⟨_, rfl, k _ F A H o .refl (.int _)⟩
  · cases e
    obtain ⟨v, rfl, h⟩ := rps1 r
    cases h
    exact .inr ⟨_, rfl, k _ F A H o .refl (.int _)⟩
  · cases e
theorem c_len {K : PySem.W.Frag} (hK : K = C.K) : CallD C (fun xs H Q => ∃ x n, xs = [x] ∧ LenV K x H n ∧ Q (.int n) H) pLen := by
  intro F A H σ s x p z Q o r e k
  unfold pLen at e
  split at e
  · cases e
    obtain ⟨v, rfl, h⟩ := rps1 r
    cases h with
    | @lst a xs l h1 h2 => exact ⟨_, _, rfl, .inl ⟨xs, .of (o.sub _ _ h1), rfl⟩, by rw [h2.length]; exact k _ F A H o .refl (.int _)⟩
  · cases e
    obtain ⟨v, rfl, h⟩ := rps1 r
    cases h with
    | @tup a xs l h1 h2 => exact ⟨_, _, rfl, .inr ⟨xs, by rw [hK]; exact sqT_mono o.sub h1, rfl⟩, by rw [h2.length]; exact k _ F A H o .refl (.int _)⟩
  · cases e
    obtain ⟨v, rfl, h⟩ := rps1 r
    cases h with
    | @scr a xs l h1 h2 => exact ⟨_, _, rfl, .inl ⟨xs, by rw [hK]; exact o.sub.seq h1, rfl⟩, by rw [h2.length]; exact k _ F A H o .refl (.int _)⟩
  · split at e
    · rename_i hl
      cases e
      obtain ⟨v, rfl, h⟩ := rps1 r
      cases h
      exact ⟨_, _, rfl, ⟨line_le hl, rfl⟩, k _ F A H o .refl (.int _)⟩
    · cases e
  · cases e
theorem lst_at {K : PySem.W.Frag} {F H : Hp} {x : List V} {l : List PV} (sm : Same F H) (hK : K = C.K) (r : Rps C F x [.lst l]) : ∃ a xs, x = [.ref a] ∧ SqL K H a xs ∧ Rps C F xs l := by
  obtain ⟨v, rfl, h⟩ := rps1 r
  cases h with
  | @lst a xs l h1 h2 => exact ⟨a, xs, rfl, .of (sm _ _ h1), h2⟩
theorem c_sum {K : PySem.W.Frag} (hK : K = C.K) : CallD C (PLS.rSum2 K) pSum := by
  intro F A H σ s x p z Q o r e k
  unfold pSum at e
  split at e
  · rename_i l
    cases h : allInt l with
    | none =>
      rw [h] at e
      simp only at e
      cases h3 : allBl l with
      | none => rw [h3] at e; cases e
      | some bs =>
        rw [h3] at e; cases e
        obtain ⟨a, xs, rfl, h1, h2⟩ := lst_at o.sub hK r
        rw [allBl_eq h3] at h2
        have := h2.bls
        subst this
        exact .inr ⟨a, bs, rfl, h1, k _ F A H o .refl (.int _)⟩
    | some ns =>
      rw [h] at e; cases e
      obtain ⟨a, xs, rfl, h1, h2⟩ := lst_at o.sub hK r
      rw [allInt_eq h] at h2
      have := h2.ints
      subst this
      exact .inl ⟨a, ns, rfl, h1, k _ F A H o .refl (.int _)⟩
  · cases e
theorem c_any {K : PySem.W.Frag} (hK : K = C.K) : CallD C (rAny K) pAny := by
  intro F A H σ s x p z Q o r e k
  unfold pAny at e
  split at e
  · rename_i l
    cases h : allBl l with
    | none => rw [h] at e; cases e
    | some ns =>
      rw [h] at e; cases e
      obtain ⟨a, xs, rfl, h1, h2⟩ := lst_at o.sub hK r
      rw [allBl_eq h] at h2
      have := h2.bls
      subst this
      exact ⟨a, ns, rfl, h1, k _ F A H o .refl (.bl _)⟩
  · cases e
theorem c_all {K : PySem.W.Frag} (hK : K = C.K) : CallD C (rAll K) pAll := by
  intro F A H σ s x p z Q o r e k
  unfold pAll at e
  split at e
  · rename_i l
    cases h : allBl l with
    | none => rw [h] at e; cases e
    | some ns =>
      rw [h] at e; cases e
      obtain ⟨a, xs, rfl, h1, h2⟩ := lst_at o.sub hK r
      rw [allBl_eq h] at h2
      have := h2.bls
      subst this
      exact ⟨a, ns, rfl, h1, k _ F A H o .refl (.bl _)⟩
  · cases e
theorem c_max1 {K : PySem.W.Frag} (hK : K = C.K) : CallD C (rMax K) pMax1 := by
  intro F A H σ s x p z Q o r e k
  unfold pMax1 at e
  split at e
  · rename_i l
    split at e
    · rename_i y t h
      cases e
      obtain ⟨a, xs, rfl, h1, h2⟩ := lst_at o.sub hK r
      rw [allInt_eq h] at h2
      have := h2.ints
      subst this
      refine ⟨a, y :: t, rfl, h1, by simp, fun m hm hy => ?_⟩
      obtain ⟨q1, q2⟩ := maxI_mem (l := y :: t) (by simp)
      have : m = maxI (y :: t) := Int.le_antisymm (q2 m hm) (hy _ q1)
      rw [this]
      exact k _ F A H o .refl (.int _)
    · cases e
  · cases e
theorem c_min1 {K : PySem.W.Frag} (hK : K = C.K) : CallD C (rMin K) pMin1 := by
  intro F A H σ s x p z Q o r e k
  unfold pMin1 at e
  split at e
  · rename_i l
    split at e
    · rename_i y t h
      cases e
      obtain ⟨a, xs, rfl, h1, h2⟩ := lst_at o.sub hK r
      rw [allInt_eq h] at h2
      have := h2.ints
      subst this
      refine ⟨a, y :: t, rfl, h1, by simp, fun m hm hy => ?_⟩
      obtain ⟨q1, q2⟩ := minI_mem (l := y :: t) (by simp)
      have : m = minI (y :: t) := Int.le_antisymm (hy _ q1) (q2 m hm)
      rw [this]
      exact k _ F A H o .refl (.int _)
    · cases e
  · cases e
end
end PL

/-! PL10: more stores, repr, calls with keywords, more walks. -/
namespace PL
open PySem PySem.Spec PyProof.Rows L2

section
variable {X : Cx} {C : Fx} {W : WX} {a b e tg : Expr} {es : List Expr} {pos : Pos} {fa : Stt → Res (List PV)} {fe : Stt → Res PV}
/-- a, b = x, y -/
def gPar (i j : Nat) (fa : Stt → Res (List PV)) : Stt → Fl := fun s => (fa s).fl fun l s1 => match l with
  | [p, q] => .nx (setV j q (setV i p s1))
  | _ => .stuck
def gPar3 (i j l : Nat) (fa : Stt → Res (List PV)) : Stt → Fl := fun s => (fa s).fl fun l' s1 => match l' with
  | [p, q, r] => .nx (setV l r (setV j q (setV i p s1)))
  | _ => .stuck
theorem ds_par {i j : Nat} {x y : Str} {px py pt : Pos} {kt k2 pt2} (hc : X.calm = true) (hN : X.N.Nodup) (hi : X.N[i]? = some x) (hj : X.N[j]? = some y) (hij : i ≠ j)
    (hx : X.env.scope.names.lookup x = some .local) (hy : X.env.scope.names.lookup y = some .local) (ha : DA X C W [a, b] fa)
    (hw : swappedStores [.Tuple [.Name x px, .Name y py] kt pt] (.Tuple [a, b] k2 pt2) X.env = pure (some [x, y]))
    (hs : swapsWithSole [.Tuple [.Name x px, .Name y py] kt pt] (.Tuple [a, b] k2 pt2) pos.line X.env = pure false := by rfl) :
    DS X C W (.Assign [.Tuple [.Name x px, .Name y py] kt pt] (.Tuple [a, b] k2 pt2) pos) (gPar i j fa) := by
  obtain ⟨ta, pa, qa⟩ := ha.pr
  refine ⟨_, ps_par hc hN hi hj hij hx hy pa hw hs, fun F A H σ s D o p => ?_⟩
  refine qa F A H σ s _ o (PostS.seq p fun l s1 vs F1 A1 H1 _ o1 st1 r1 p1 => ?_)
  cases r1 with
  | nil => exact p1.elim
  | cons r r' =>
    cases r' with
    | nil => exact p1.elim
    | cons q q' =>
      cases q' with
      | cons _ _ => exact p1.elim
      | nil =>
        refine ⟨_, _, rfl, ?_⟩
        obtain ⟨o2, st2⟩ := o1.setV (i := i) r
        obtain ⟨o3, st3⟩ := o2.setV (i := j) q
        exact p1 _ _ _ _ o3 (st2.trans st3)
theorem ds_par3 {c : Expr} {i j l : Nat} {x y z : Str} {px py pz pt : Pos} {kt k2 pt2} (hc : X.calm = true) (hN : X.N.Nodup) (hi : X.N[i]? = some x) (hj : X.N[j]? = some y) (hl : X.N[l]? = some z) (hij : i ≠ j) (hil : i ≠ l) (hjl : j ≠ l)
    (hx : X.env.scope.names.lookup x = some .local) (hy : X.env.scope.names.lookup y = some .local) (hz : X.env.scope.names.lookup z = some .local) (ha : DA X C W [a, b, c] fa)
    (hw : swappedStores [.Tuple [.Name x px, .Name y py, .Name z pz] kt pt] (.Tuple [a, b, c] k2 pt2) X.env = pure (some [x, y, z]))
    (hs : swapsWithSole [.Tuple [.Name x px, .Name y py, .Name z pz] kt pt] (.Tuple [a, b, c] k2 pt2) pos.line X.env = pure false := by rfl) :
    DS X C W (.Assign [.Tuple [.Name x px, .Name y py, .Name z pz] kt pt] (.Tuple [a, b, c] k2 pt2) pos) (gPar3 i j l fa) := by
  obtain ⟨ta, pa, qa⟩ := ha.pr
  refine ⟨_, ps_par3 hc hN hi hj hl hij hil hjl hx hy hz pa hw hs, fun F A H σ s D o p => ?_⟩
  refine qa F A H σ s _ o (PostS.seq p fun l s1 vs F1 A1 H1 _ o1 st1 r1 p1 => ?_)
  cases r1 with
  | nil => exact p1.elim
  | cons r r' =>
    cases r' with
    | nil => exact p1.elim
    | cons q q' =>
      cases q' with
      | nil => exact p1.elim
      | cons w w' =>
        cases w' with
        | cons _ _ => exact p1.elim
        | nil =>
          refine ⟨_, _, _, rfl, ?_⟩
          obtain ⟨o2, st2⟩ := o1.setV (i := i) r
          obtain ⟨o3, st3⟩ := o2.setV (i := j) q
          obtain ⟨o4, st4⟩ := o3.setV w
          exact p1 _ _ _ _ o4 ((st2.trans st3).trans st4)
/-- a list unpacked into names -/
def aLst (n : Nat) (b : List PV → Stt → Option Stt) : PV → Stt → Option Stt
  | .lst l, s => if l.length = n then b l s else none
  | _, _ => none
theorem dg_lst {vs : Nat → Bool} {k n : Nat} {b : List PV → Stt → Option Stt} (hK : X.K = C.K) (hc : X.calm = true) (h : DGs X C vs es b) (hn : (assignEach es X.env).length = n := by rfl) (hst : (assignEach es X.env).findIdx? (·.1) = none := by rfl) : DG X C vs (.Tuple es k pos) (aLst n b) := by
  obtain ⟨t, p, q⟩ := h.pr
  refine ⟨_, pg_lst (n := n) hc p hn hst, fun F A H σ s x v s' Q o r e kk => ?_⟩
  cases r with
  | @lst a xs l hT hR =>
    have e : (if l.length = n then b l s else none) = some s' := e
    by_cases hl : l.length = n
    · rw [if_pos hl] at e
      exact ⟨a, xs, rfl, .of (o.sub _ _ hT), by rw [hR.length]; exact hl, q F A H σ s xs l s' Q o hR e kk⟩
    · rw [if_neg hl] at e; cases e
  | _ => cases e
/-- x += e, x a local name -/
def gAug (i : Nat) (f : PV → PV → Option PV) (fe : Stt → Res PV) : Stt → Fl := fun s => match s.ro[i]? with
  | some (some (.val p)) => (fe s).fl fun q s1 => match f p q with
    | some z => .nx (setV i z s1)
    | none => .stuck
  | _ => .stuck
theorem ds_aug {i : Nat} {x : Str} {op : Operator} {ti : TIp} {f : PV → PV → Option PV} {pos' : Pos} (hN : X.N.Nodup) (hi : X.N[i]? = some x) (hx : Loc X.env.scope x) (he : DV X C W e fe) (ho : PIp X op ti)
    (hd : ∀ F A H σ s x y p q z (Q : VK), OkF C F A H σ s → Rp C F x p → Rp C F y q → f p q = some z → (∀ v F' A' H', OkF C F' A' H' σ s → Step C F A H F' A' H' → Rp C F' v z → Q v H') → ti x y H Q)
    (hf : X.fn x = true ∨ X.env.scope.names.lookup x = some .local := by first | exact .inl rfl | exact .inr rfl | assumption) : DS X C W (.AugAssign (.Name x pos') op e pos) (gAug i f fe) := by
  obtain ⟨te, pe, qe⟩ := he.pr
  refine ⟨_, ps_aug hN hi hx pe ho hf, fun F A H σ s D o p => ?_⟩
  unfold gAug at p
  split at p
  · rename_i v e0
    obtain ⟨u, h1, h2⟩ := o.val i v e0
    refine ⟨u, h1, ?_⟩
    refine qe F A H σ s _ o (PostS.seq p fun q s1 y F1 A1 H1 _ o1 st1 r1 p1 => ?_)
    cases e1 : f v q with
    | none => rw [e1] at p1; exact p1.elim
    | some z =>
      rw [e1] at p1
      refine hd F1 A1 H1 σ s1 u y v q z _ o1 (h2.mono st1.s1) r1 e1 fun w F2 A2 H2 o2 st2 r2 => ?_
      obtain ⟨o3, st3⟩ := o2.setV (i := i) r2
      exact p1 _ _ _ _ o3 (st2.trans st3)
  · exact p.elim
def pAddI : PV → PV → Option PV
  | .int i, .int j => some (.int (i + j))
  | _, _ => none
theorem d_ipadd : ∀ F A H σ s x y p q z (Q : VK), OkF C F A H σ s → Rp C F x p → Rp C F y q → pAddI p q = some z → (∀ v F' A' H', OkF C F' A' H' σ s → Step C F A H F' A' H' → Rp C F' v z → Q v H') → ipI (fun i j => i + j) x y H Q := by
  intro F A H σ s x y p q z Q o r1 r2 e k
  unfold pAddI at e
  split at e
  · cases e; cases r1; cases r2
    exact ⟨_, _, rfl, rfl, k _ F A H o .refl (.int _)⟩
  · cases e
theorem d_ipsub : ∀ F A H σ s x y p q z (Q : VK), OkF C F A H σ s → Rp C F x p → Rp C F y q → pSub p q = some z → (∀ v F' A' H', OkF C F' A' H' σ s → Step C F A H F' A' H' → Rp C F' v z → Q v H') → ipI (fun i j => i - j) x y H Q := by
  intro F A H σ s x y p q z Q o r1 r2 e k
  unfold pSub at e
  split at e
  · cases e; cases r1; cases r2
    exact ⟨_, _, rfl, rfl, k _ F A H o .refl (.int _)⟩
  · cases e
end

/-! ### repr -/
def rRepr (K : PySem.W.Frag) : List V → Hp → VK → Prop := fun xs H Q => ∃ x d, xs = [x] ∧ Dp K H x d ∧ (d.showable = true ∧ d.hasDict = false ∧ d.shown.length ≤ sizeLine ∧ d.depth ≤ 30) ∧ Q (.str d.shown) H
theorem call_reprD {X : Cx} (gu : X.A.guards = some []) (hu : X.A.units + 64 < cLine) : CallR X (.builtin "repr") (rRepr X.K) := by
  intro pins s σ H xs us Q I rv h
  obtain ⟨x, d, rfl, hd, ⟨h1, h2, h3, h4⟩, q⟩ := h
  obtain ⟨u, rfl, ru⟩ := vals1 rv
  obtain ⟨as, hr⟩ := Dp.reads I d x u hd ru
  have ref_case : ∀ a, u = Value.ref a → wpAny (model X.prog X.w) X.A (call (.builtin "repr") [u]) (EP X pins σ Q) X.xe s := fun a ea => by
    subst ea
    exact repr_of_reads' hr h1 (PyData.noDict_hsm h2) gu (by omega) (fun _ _ e => e) (fun h' t tk k => ⟨.str d.shown, H, I.kept k, ⟨_, rfl⟩, q⟩) h3
  cases hd with
  | non =>
    cases ru
    exact PySem.P.repr_of_none ⟨.str _, H, I.tok _, ⟨_, rfl⟩, by simpa [PyData.shown] using q⟩
  | bl b =>
    cases ru
    exact PySem.P.repr_of_bool ⟨.str _, H, I.tok _, ⟨_, rfl⟩, by simpa [PyData.shown] using q⟩
  | int i =>
    obtain ⟨t, rfl⟩ := ru
    exact PySem.P.repr_of_int (by simpa [PyData.showable] using h1) ⟨.str _, H, I.tok _, ⟨_, rfl⟩, by simpa [PyData.shown] using q⟩
  | str z =>
    obtain ⟨t, rfl⟩ := ru
    exact PySem.P.repr_of_str ⟨.str _, H, I.tok _, ⟨_, rfl⟩, by simpa [PyData.shown] using q⟩ (by simpa [PyData.shown] using h3)
  | lst _ _ => exact ref_case _ ru
  | tup _ _ => exact ref_case _ ru
def okRepr (d : PyData) : Bool := d.showable && !d.hasDict && decide (d.shown.length ≤ 16777216) && decide (d.depth ≤ 30)
def pRepr : List PV → Option PV
  | [p] => match toD p with
    | some d => if okRepr d = true then some (.str d.shown) else none
    | none => none
  | _ => none
theorem c_repr {K : PySem.W.Frag} {C : Fx} (hK : K = C.K) : CallD C (rRepr K) pRepr := by
  intro F A H σ s x p z Q o r e k
  unfold pRepr at e
  split at e
  · rename_i p
    split at e
    · rename_i d hd
      split at e
      · rename_i ok
        cases e
        obtain ⟨v, rfl, h⟩ := rps1 r
        unfold okRepr at ok
        simp only [Bool.and_eq_true, decide_eq_true_eq, Bool.not_eq_true'] at ok
        refine ⟨v, d, rfl, by rw [hK]; exact dp_mono o.sub (dp_of h hd), ⟨ok.1.1.1, ok.1.1.2, line_le ok.1.2, ok.2⟩, k _ F A H o .refl (.str _)⟩
      · cases e
    · cases e
  · cases e

/-! ### calls with keywords -/
/-- the items of a list by their places -/
def permL {α : Type} (perm : List Nat) (l : List α) : List α := perm.filterMap fun i => l[i]?
theorem vals_perm {xs : List V} {us : List Value} (r : Vals xs us) : ∀ perm, Vals (permL perm xs) (permL perm us)
  | [] => .nil
  | i :: p => by
    unfold permL
    rw [List.filterMap_cons, List.filterMap_cons]
    cases e : xs[i]? with
    | none => rw [Vals.none_of r e]; exact vals_perm r p
    | some v =>
      obtain ⟨u, h1, h2⟩ := r.get e
      rw [h1]
      exact .cons h2 (vals_perm r p)
/-- n positional values, then the keywords ks: perm puts them in the parameters' order -/
def KwB (K : PySem.W.Frag) (fd : FuncData) (ps : List Str) (n : Nat) (ks : List Str) (perm : List Nat) : Prop :=
  ∀ (s : Shared) (us ws : List Value), K.In s.heap → us.length = n → ws.length = ks.length → BindsTo s fd ⟨us, ks.zip ws⟩ (ps.zip (permL perm (us ++ ws)))
section
variable {X : Cx} {Cn : CXT} {k n : Nat} {f : Addr} {fd : FuncData} {ps ks : List Str} {perm : List Nat} {sp : Sp} {E : L2.St → XK} {x : Str} {p pos : Pos} {e : Expr} {es : List Expr} {t tk : TA} {kws : List Keyword}
theorem run_kw {pins : List (Addr × Obj)} {σ : L2.St} {H : Hp} {s : Shared} {Q : VK} {us ws : List Value} {vs zs : List V} (F : FnG X.prog X.w X.K X.mg X.base Cn k f fd ps sp) (room : Room k X.A) (gu : X.A.guards = some []) (hb : KwB X.K fd ps n ks perm)
    (hx : PassesAt Cn X σ (E σ)) (I : Inv X pins σ H s) (rel : Vals vs us) (relz : Vals zs ws) (hn : vs.length = n) (hz : zs.length = ks.length) (h : sp (permL perm (vs ++ zs)) H Q (E σ)) :
    wpAny (model X.prog X.w) X.A (call (.ref f) us (ks.zip ws)) (EP X pins σ Q) X.xe s := by
  have rel2 := vals_perm (rel.append relz) perm
  refine wpAny_call (codeAny_mono (F.go X.A X.stack s H ⟨us, ks.zip ws⟩ (permL perm (us ++ ws)) (permL perm (vs ++ zs)) Q (E σ) room gu I.env0 (hb s us ws I.kIn (rel.length.symm.trans hn) (relz.length.symm.trans hz)) rel2 h) ?_)
  intro r s' z
  have q := cr_ep hx I z
  cases r with
  | error er => exact q
  | ok fl => cases fl <;> first | exact q | exact q.elim
def tKw (n m : Nat) (perm : List Nat) (sp : Sp) (E : L2.St → XK) (t tk : TA) : TE := fun σ H Q => t σ H fun vs H1 => tk σ H1 fun zs H2 => vs.length = n ∧ zs.length = m ∧ sp (permL perm (vs ++ zs)) H2 Q (E σ)
theorem pe_kw (F : FnG X.prog X.w X.K X.mg X.base Cn k f fd ps sp) (room : Room k X.A) (gu : X.A.guards = some []) (hg : Gl X x) (hm : X.mg x = some (.ref f)) (hk : PySem.W.keepIn X.K (.ref f) = true) (hb : KwB X.K fd ps n ks perm)
    (hx : ∀ σ, PassesAt Cn X σ (E σ)) (ha : PA X (e :: es) t) (hkw : PK X kws tk)
    (hall : (backToKw pos (keywordEach kws X.env)).all (·.1.isSome) = true) (hks : (backToKw pos (keywordEach kws X.env)).filterMap (·.1) = ks) (hdb : (x == ("__debug__" : Str)) = false)
    (he : starEach (e :: es) X.env = (false, eval e X.env) :: starEach es X.env) (hpl : ((backTo pos (starEach (e :: es) X.env)).any (·.1) || (backToKw pos (keywordEach kws X.env)).any (·.1.isNone)) = false) :
    PE X (.Call (.Name x p) (e :: es) kws pos) (tKw n ks.length perm sp E t tk) := by
  refine ⟨?_⟩
  intro pins s σ H Q I h
  refine wpAny_Call_Name_kw (ld_glob I hg hm ?_ hdb)
  refine PySem.W.callWith_KW (h₀ := X.base) I.ok.mod.kin hk hall (thn (ha.run pos pins s σ H _ I h) ?_) hpl he
  rintro us s1 ⟨vs, H1, I1, rel, q⟩
  refine thn (hkw.run pos pins s1 σ H1 _ I1 q) ?_
  rintro ws s2 ⟨zs, H2, I2, relz, q2, q3, q4⟩
  refine ⟨I2.kIn, ?_⟩
  rw [hks]
  exact run_kw F room gu hb (hx σ) I2 rel relz q2 q3 q4
theorem pe_kw0 (F : FnG X.prog X.w X.K X.mg X.base Cn k f fd ps sp) (room : Room k X.A) (gu : X.A.guards = some []) (hg : Gl X x) (hm : X.mg x = some (.ref f)) (hk : PySem.W.keepIn X.K (.ref f) = true) (hb : KwB X.K fd ps 0 ks perm)
    (hx : ∀ σ, PassesAt Cn X σ (E σ)) (hkw : PK X kws tk)
    (hall : (backToKw pos (keywordEach kws X.env)).all (·.1.isSome) = true) (hks : (backToKw pos (keywordEach kws X.env)).filterMap (·.1) = ks) (hdb : (x == ("__debug__" : Str)) = false)
    (hpl : ((backTo pos (starEach [] X.env)).any (·.1) || (backToKw pos (keywordEach kws X.env)).any (·.1.isNone)) = false) :
    PE X (.Call (.Name x p) [] kws pos) (tKw 0 ks.length perm sp E tNil tk) := by
  refine ⟨?_⟩
  intro pins s σ H Q I h
  refine wpAny_Call_Name_kw (ld_glob I hg hm ?_ hdb)
  refine PySem.W.callWith_KW0 (h₀ := X.base) I.ok.mod.kin hk hall (thn (hkw.run pos pins s σ H _ I h) ?_) hpl
  rintro ws s2 ⟨zs, H2, I2, relz, q2, q3, q4⟩
  refine ⟨I2.kIn, ?_⟩
  rw [hks]
  exact run_kw (us := []) F room gu hb (hx σ) I2 .nil relz q2 q3 q4
end
section
variable {X : Cx} {C : Fx} {W : WX} {a b c e tg : Expr} {es : List Expr} {kws : List Keyword} {pos p : Pos} {fa fk : Stt → Res (List AV)} {f : Addr} {fd : FuncData} {ps ks : List Str} {k n : Nat} {perm : List Nat} {m : List SV → List MO → FRes} {x : Str} {nm : Option Str} {kpos : Pos} {fe : Stt → Res PV}
structure DK (X : Cx) (C : Fx) (W : WX) (kws : List Keyword) (f : Stt → Res (List AV)) : Prop where
  pr : ∃ te, PK X kws te ∧ ∀ F A H σ s Q, OkF C F A H σ s → Post C W (fun F _ vs ps => RAs C σ F vs ps) F A H σ (f s) Q → te σ H Q
theorem dk_nil : DK X C W [] lNil := ⟨_, pk_nil, fun F A H σ s Q o p => Post.now o p .nil⟩
theorem dk_pv (ha : DV X C W e fe) (hs : DK X C W kws fk) : DK X C W (⟨nm, e, kpos⟩ :: kws) (lPv fe fk) := by
  obtain ⟨ta, pa, qa⟩ := ha.pr
  obtain ⟨tb, pb, qb⟩ := hs.pr
  refine ⟨_, pk_cons pa pb, fun F A H σ s Q o p => ?_⟩
  refine qa F A H σ s _ o (p.seq fun q1 s1 v1 F1 A1 H1 _ o1 st1 r1 p1 => ?_)
  refine qb F1 A1 H1 σ s1 _ o1 (p1.seq fun q2 s2 v2 F2 A2 H2 _ o2 st2 r2 p2 => ?_)
  exact Post.now o2 p2 (.pv (r1.mono st2.s1) r2)
theorem ras_perm {σ : L2.St} {F : Hp} {vs : List V} {as : List AV} (r : RAs C σ F vs as) : ∀ perm, RAs C σ F (permL perm vs) (permL perm as) := by
  have get : ∀ (i : Nat), (vs[i]? = none ∧ as[i]? = none) ∨ ∃ v a, vs[i]? = some v ∧ as[i]? = some a ∧ ((∃ p, a = AV.pv p ∧ Rp C F v p) ∨ ∃ j : Nat, a = AV.sl j ∧ σ[j]? = some (some v)) := by
    induction r with
    | nil => exact fun i => .inl ⟨by simp, by simp⟩
    | pv h _ ih =>
      intro i
      cases i with
      | zero => exact .inr ⟨_, _, rfl, rfl, .inl ⟨_, rfl, h⟩⟩
      | succ i => simpa using ih i
    | sl h _ ih =>
      intro i
      cases i with
      | zero => exact .inr ⟨_, _, rfl, rfl, .inr ⟨_, rfl, h⟩⟩
      | succ i => simpa using ih i
  intro perm
  induction perm with
  | nil => exact .nil
  | cons i p ih =>
    unfold permL
    rw [List.filterMap_cons, List.filterMap_cons]
    rcases get i with ⟨h1, h2⟩ | ⟨v, a, h1, h2, ⟨q, rfl, h3⟩ | ⟨j, rfl, h3⟩⟩
    · rw [h1, h2]; exact ih
    · rw [h1, h2]; exact .pv h3 ih
    · rw [h1, h2]; exact .sl h3 ih
theorem ras_len {σ : L2.St} {F : Hp} {vs : List V} {as : List AV} (r : RAs C σ F vs as) : vs.length = as.length := by
  induction r with
  | nil => rfl
  | pv _ _ ih => simpa using ih
  | sl _ _ ih => simpa using ih
theorem RAs.append {σ : L2.St} {F : Hp} {vs vs2 : List V} {as as2 : List AV} (r : RAs C σ F vs as) (r2 : RAs C σ F vs2 as2) : RAs C σ F (vs ++ vs2) (as ++ as2) := by
  induction r with
  | nil => exact r2
  | pv h _ ih => exact .pv h ih
  | sl h _ ih => exact .sl h ih
/-- the values of a call with keywords, in the parameters' order -/
def avK (n m : Nat) (perm : List Nat) (fa fk : Stt → Res (List AV)) : Stt → Res (List AV) := fun s => (fa s).bind fun l s1 => (fk s1).bind fun z s2 => if l.length = n ∧ z.length = m then .ok (permL perm (l ++ z)) s2 else .stuck
theorem dv_kw {np nk : Nat} (F : FnP X.prog X.w X.K X.mg X.base C.cl k f fd ps m) (hr : Room k X.A) (gu : X.A.guards = some []) (tk : Takes X W) (hK : X.K = C.K) (hm : X.mg x = some (.ref f)) (hk : PySem.W.keepIn X.K (.ref f) = true) (hb : KwB X.K fd ps n ks perm)
    (ha : DL X C W (a :: es) fa) (hkw : DK X C W kws fk) (hg : Gl X x := by rfl) (hall : (backToKw pos (keywordEach kws X.env)).all (·.1.isSome) = true := by rfl) (hks : (backToKw pos (keywordEach kws X.env)).filterMap (·.1) = ks := by rfl) (hdb : (x == ("__debug__" : Str)) = false := by decide)
    (he : starEach (a :: es) X.env = (false, eval a X.env) :: starEach es X.env := by rfl) (hpl : ((backTo pos (starEach (a :: es) X.env)).any (·.1) || (backToKw pos (keywordEach kws X.env)).any (·.1.isNone)) = false := by rfl) (hnn : ps.length = np := by rfl) (hnk : ks.length = nk := by rfl) :
    DV X C W (.Call (.Name x p) (a :: es) kws pos) (eCall m (avN np (avK n nk perm fa fk))) := by
  subst hnn hnk
  obtain ⟨ta, pa, qa⟩ := ha.pr
  obtain ⟨tb, pb, qb⟩ := hkw.pr
  refine ⟨_, pe_kw (E := fun σ c d H => W c d σ H) F hr gu hg hm hk hb (fun σ => passAt tk σ) pa pb hall hks hdb he hpl, fun F A H σ s Q o pp => ?_⟩
  unfold eCall avN avK at pp
  refine qa F A H σ s _ o ?_
  cases hf : fa s with
  | ex c v s1 => rw [hf] at pp; exact pp
  | stuck => rw [hf] at pp; exact pp
  | ok l s1 =>
    rw [hf] at pp
    intro vs F1 A1 H1 o1 st1 r1
    refine qb F1 A1 H1 σ s1 _ o1 ?_
    cases hz : fk s1 with
    | ex c v s2 => simp only [Res.bind_ok, hz, Res.bind_ex] at pp; exact Post.after st1 pp
    | stuck => simp only [Res.bind_ok, hz, Res.bind_stuck] at pp; exact pp.elim
    | ok z s2 =>
      simp only [Res.bind_ok, hz] at pp
      intro zs F2 A2 H2 o2 st2 r2
      by_cases hl : l.length = n ∧ z.length = ks.length
      · rw [if_pos hl] at pp
        simp only [Res.bind_ok] at pp
        by_cases hq : (permL perm (l ++ z)).length = ps.length
        · rw [if_pos hq] at pp
          simp only [Res.bind_ok] at pp
          exact ⟨(ras_len r1).trans hl.1, (ras_len r2).trans hl.2, call_post hK hq o2 (ras_perm ((r1.mono st2.s1).append r2) perm) (Post.after (st1.trans st2) pp)⟩
        · rw [if_neg hq] at pp; exact pp.elim
      · rw [if_neg hl] at pp; exact pp.elim
theorem dv_kw0 {np nk : Nat} (F : FnP X.prog X.w X.K X.mg X.base C.cl k f fd ps m) (hr : Room k X.A) (gu : X.A.guards = some []) (tk : Takes X W) (hK : X.K = C.K) (hm : X.mg x = some (.ref f)) (hk : PySem.W.keepIn X.K (.ref f) = true) (hb : KwB X.K fd ps 0 ks perm)
    (hkw : DK X C W kws fk) (hg : Gl X x := by rfl) (hall : (backToKw pos (keywordEach kws X.env)).all (·.1.isSome) = true := by rfl) (hks : (backToKw pos (keywordEach kws X.env)).filterMap (·.1) = ks := by rfl) (hdb : (x == ("__debug__" : Str)) = false := by decide)
    (hpl : ((backTo pos (starEach [] X.env)).any (·.1) || (backToKw pos (keywordEach kws X.env)).any (·.1.isNone)) = false := by rfl) (hnn : ps.length = np := by rfl) (hnk : ks.length = nk := by rfl) :
    DV X C W (.Call (.Name x p) [] kws pos) (eCall m (avN np (avK 0 nk perm lNil fk))) := by
  subst hnn hnk
  obtain ⟨tb, pb, qb⟩ := hkw.pr
  refine ⟨_, pe_kw0 (E := fun σ c d H => W c d σ H) F hr gu hg hm hk hb (fun σ => passAt tk σ) pb hall hks hdb hpl, fun F A H σ s Q o pp => ?_⟩
  unfold eCall avN avK lNil at pp
  show tb σ H fun zs H2 => (0 = 0 ∧ zs.length = ks.length ∧ spOf X.K C.cl ps.length m (permL perm ([] ++ zs)) H2 Q (fun c d H => W c d σ H))
  refine qb F A H σ s _ o ?_
  simp only [Res.bind_ok] at pp
  cases hz : fk s with
  | ex c v s2 => rw [hz] at pp; simp only [Res.bind_ex] at pp; exact pp
  | stuck => rw [hz] at pp; simp only [Res.bind_stuck] at pp; exact pp.elim
  | ok z s2 =>
    rw [hz] at pp
    simp only [Res.bind_ok] at pp
    intro zs F2 A2 H2 o2 st2 r2
    by_cases hl : ([] : List AV).length = 0 ∧ z.length = ks.length
    · rw [if_pos hl] at pp
      simp only [Res.bind_ok] at pp
      by_cases hq : (permL perm ([] ++ z)).length = ps.length
      · rw [if_pos hq] at pp
        simp only [Res.bind_ok] at pp
        exact ⟨rfl, (ras_len r2).trans hl.2, call_post hK hq o2 (ras_perm (RAs.append .nil r2) perm) (Post.after st2 pp)⟩
      · rw [if_neg hq] at pp; exact pp.elim
    · rw [if_neg hl] at pp; exact pp.elim
end
end PL

/-! PL11: walks over a list or a tuple, range with a step, enumerate, zip, list(range), slices of either. -/
namespace PL
open PySem PySem.Spec PyProof.Rows L2

section
variable {X : Cx} {C : Fx} {W : WX} {a b c e tg : Expr} {es tgs : List Expr} {pos : Pos} {fe fb : Stt → Res PV} {fa : Stt → Res (List PV)}
/-- a list or a tuple is walked -/
def iEith (K : PySem.W.Frag) (tl : TE) : TI := fun σ H R => tl σ H fun x H1 => ∃ a, x = .ref a ∧ (((∃ xs, SqL K H1 a xs) ∧ R (Itl K a) H1) ∨ ((∃ xs, SqT K H1 a xs) ∧ R (Itt K a) H1))
theorem pi_eith {tl : TE} (hl : PE X e tl) : PI X tg e (iEith X.K tl) := by
  refine ⟨?_⟩
  intro pins s σ H R I h
  refine thn (hl.run pins s σ H _ I h) ?_
  rintro v s1 ⟨x, H1, I1, r1, a, rfl, q⟩
  cases r1
  have new : H1 s1.heap.objs.size = none := I1.hok.fresh (Nat.le_refl _)
  have fp : ∀ b ∈ [s1.heap.objs.size], FpOk X pins H1 b := by
    intro b hb
    rw [List.mem_singleton] at hb
    rw [hb]
    exact I1.fpOk (Nat.le_refl _) new
  rcases q with ⟨⟨xs, hq⟩, q⟩ | ⟨⟨xs, hq⟩, q⟩
  · obtain ⟨its, _, p, _⟩ := I1.list hq
    refine wpAny_pyIter_list p.isList ⟨_, [s1.heap.objs.size], _, _, H1, rfl, I1.kept (t' := s1.toks) (fun b o => Heap.get?_push_of_some _), turn_list a _, ?_, fp, q⟩
    exact ⟨_, Heap.get?_push_size _ rfl, rfl, rfl⟩
  · obtain ⟨its, _, p, _⟩ := I1.tuple hq
    refine wpAny_pyIter_tuple (show s1.heap.IsTuple a its.toArray from p) ⟨_, [s1.heap.objs.size], _, _, H1, rfl, I1.kept (t' := s1.toks) (fun b o => Heap.get?_push_of_some _), turn_tuple a _, ?_, fp, q⟩
    exact ⟨_, Heap.get?_push_size _ rfl, rfl, rfl⟩
def iAny (fe : Stt → Res PV) : Stt → Res (List PV) := fun s => (fe s).bind fun p s1 => match p with
  | .lst l => .ok l s1
  | .tup l => .ok l s1
  | .scr l => .ok l s1
  | _ => .stuck
theorem di_any (hK : X.K = C.K) (he : DV X C W e fe) : DI X C W tg e (iAny fe) := by
  obtain ⟨te, pe, qe⟩ := he.pr
  refine ⟨_, pi_eith pe, fun F A H σ s Q o p => ?_⟩
  refine qe F A H σ s _ o (p.seq fun a s1 v F1 A1 H1 _ o1 st1 r1 p1 => ?_)
  cases r1 with
  | @lst b xs l h1 h2 =>
    have hS : ∀ H2, Same F1 H2 → SqL X.K H2 b xs := fun H2 sm => .inl (.inl (sm _ _ h1))
    have hw : Walk (Itl X.K b) l.length (fun H => SqL X.K H b xs) (YAt xs) := by rw [← h2.length]; exact walk_list
    exact ⟨b, rfl, .inl ⟨⟨xs, hS H1 o1.sub⟩, Post.now o1 p1 ⟨_, _, hw, hS, yat_ok h2⟩⟩⟩
  | @scr b xs l h1 h2 =>
    have hS : ∀ H2, Same F1 H2 → SqL X.K H2 b xs := fun H2 sm => by rw [hK]; exact sm.seq h1
    have hw : Walk (Itl X.K b) l.length (fun H => SqL X.K H b xs) (YAt xs) := by rw [← h2.length]; exact walk_list
    exact ⟨b, rfl, .inl ⟨⟨xs, hS H1 o1.sub⟩, Post.now o1 p1 ⟨_, _, hw, hS, yat_ok h2⟩⟩⟩
  | @tup b xs l h1 h2 =>
    have hS : ∀ H2, Same F1 H2 → SqT X.K H2 b xs := fun H2 sm => by rw [hK]; exact sqT_mono sm h1
    have hw : Walk (Itt X.K b) l.length (fun H => SqT X.K H b xs) (YAt xs) := by rw [← h2.length]; exact walk_tup
    exact ⟨b, rfl, .inr ⟨⟨xs, hS H1 o1.sub⟩, Post.now o1 p1 ⟨_, _, hw, hS, yat_ok h2⟩⟩⟩
  | _ => exact p1.elim
/-- range(i, j, c) -/
def rngC (i c : Int) (n : Nat) : List PV := (List.range n).map fun k : Nat => PV.int (i + k * c)
def okR3 (i j c : Int) : Bool := decide (c ≠ 0 ∧ c.natAbs < 1073741824 ∧ Builtin.Range.small i j c = true)
def iRange3 (fa : Stt → Res (List PV)) : Stt → Res (List PV) := fun s => (fa s).bind fun p s1 => match p with
  | [.int i, .int j, .int c] => if okR3 i j c = true ∧ 0 ≤ Builtin.Range.rangeSize i j c then .ok (rngC i c (Builtin.Range.rangeSize i j c).toNat) s1 else .stuck
  | _ => .stuck
theorem rps3 {F : Hp} {x : List V} {p q r : PV} (h : Rps C F x [p, q, r]) : ∃ v u w, x = [v, u, w] ∧ Rp C F v p ∧ Rp C F u q ∧ Rp C F w r := by
  cases h with
  | cons h t =>
    obtain ⟨u, w, rfl, hu, hw⟩ := rps2 t
    exact ⟨_, u, w, rfl, h, hu, hw⟩
theorem di_range3 {p : Pos} (hg : Gl X "range") (hm : X.mg "range" = none) (ha : DA X C W [a, b, c] fa)
    (hs : starEach [a, b, c] X.env = (false, eval a X.env) :: starEach [b, c] X.env := by rfl) (hpl : (backTo pos (starEach [b, c] X.env)).any (·.1) = false := by rfl) : DI X C W tg (.Call (.Name "range" p) [a, b, c] [] pos) (iRange3 fa) := by
  obtain ⟨te, pe, qe⟩ := ha.pr
  refine ⟨_, pi_range3 hg hm pe hs hpl, fun F A H σ s Q o p => ?_⟩
  refine qe F A H σ s _ o (p.seq fun l s1 v F1 A1 H1 _ o1 st1 r1 p1 => ?_)
  split at p1
  · rename_i i j c _
    split at p1
    · rename_i h
      obtain ⟨x, y, z, rfl, h1, h2, h3⟩ := rps3 r1
      cases h1; cases h2; cases h3
      obtain ⟨g1, g2, g3⟩ := of_decide_eq_true h.1
      refine ⟨i, j, c, (Builtin.Range.rangeSize i j c).toNat, rfl, ⟨g1, g2, g3, (Int.toNat_of_nonneg h.2).symm⟩, Post.now o1 p1 ?_⟩
      refine ⟨fun _ => True, YFn fun k => V.int (i + (k : Nat) * c), ?_, fun _ _ => trivial, ?_⟩
      · have e : (rngC i c (Builtin.Range.rangeSize i j c).toNat).length = (Builtin.Range.rangeSize i j c).toNat := by simp [rngC]
        rw [e]
        exact walk_rangeC
      · rintro k F1 A1 H1 σ s x H2 p o sm ⟨rfl, rfl⟩ hp
        unfold rngC at hp
        rw [List.getElem?_map] at hp
        cases e : (List.range (Builtin.Range.rangeSize i j c).toNat)[k]? with
        | none => rw [e] at hp; cases hp
        | some m =>
          rw [e] at hp
          obtain ⟨q1, q2⟩ := List.getElem?_eq_some_iff.mp e
          rw [List.getElem_range] at q2
          subst q2
          cases hp
          exact ⟨F1, o, .refl, .int _⟩
    · exact p1.elim
  · exact p1.elim
/-- pairs that are made anew -/
theorem ypair_ok {F : Hp} {xs ys : List V} {l : List PV} {lx ly : List PV} (hx : Rps C F xs lx) (hy : Rps C F ys ly) (hl : ∀ (i : Nat) p, l[i]? = some p → ∃ q r, lx[i]? = some q ∧ ly[i]? = some r ∧ p = .tup [q, r]) :
    ∀ i F1 A1 H1 σ s x H2 p, OkF C F1 A1 H1 σ s → Same F F1 → YPair (fun i => xs[i]?) (fun i => ys[i]?) i H1 x H2 → l[i]? = some p → ∃ F2, OkF C F2 A1 H2 σ s ∧ Step C F1 A1 H1 F2 A1 H2 ∧ Rp C F2 x p := by
  rintro i F1 A1 H1 σ s x H2 p o sm ⟨T, u, v, rfl, hT, rfl, h1, h2⟩ hp
  obtain ⟨q, r, e1, e2, rfl⟩ := hl i p hp
  obtain ⟨q', e3, r3⟩ := hx.getV h1
  obtain ⟨r', e4, r4⟩ := hy.getV h2
  rw [e1] at e3; cases e3
  rw [e2] at e4; cases e4
  obtain ⟨o2, st2⟩ := o.alloc (o := .tup [u, v]) hT
  exact ⟨_, o2, st2, .tup (.of upd_same) (.cons (r3.mono (sm.trans st2.s1)) (.cons (r4.mono (sm.trans st2.s1)) .nil))⟩
def zipP (x y : List PV) : List PV := List.zipWith (fun p q => PV.tup [p, q]) x y
def enumP (x : List PV) : List PV := zipP ((List.range x.length).map fun i : Nat => PV.int i) x
def iEnumP (fa : Stt → Res (List PV)) : Stt → Res (List PV) := fun s => (fa s).bind fun p s1 => match p with
  | [.lst l] => .ok (enumP l) s1
  | [.scr l] => .ok (enumP l) s1
  | _ => .stuck
def iZipP (fa : Stt → Res (List PV)) : Stt → Res (List PV) := fun s => (fa s).bind fun p s1 => match p with
  | [.lst l, .lst m] => .ok (zipP l m) s1
  | _ => .stuck
theorem enumP_len (x : List PV) : (enumP x).length = x.length := by simp [enumP, zipP]
theorem enum_ok {F : Hp} {xs : List V} {l : List PV} (hr : Rps C F xs l) : ∀ i F1 A1 H1 σ s x H2 p, OkF C F1 A1 H1 σ s → Same F F1 → YPair (fun i => some (V.int (i : Nat))) (fun i => xs[i]?) i H1 x H2 → (enumP l)[i]? = some p → ∃ F2, OkF C F2 A1 H2 σ s ∧ Step C F1 A1 H1 F2 A1 H2 ∧ Rp C F2 x p := by
  rintro i F1 A1 H1 σ s x H2 p o sm ⟨T, u, v, rfl, hT, rfl, h1, h2⟩ hp
  have h1 : some (V.int (i : Nat)) = some u := h1
  cases h1
  obtain ⟨r', e4, r4⟩ := hr.getV h2
  have hi : i < l.length := (List.getElem?_eq_some_iff.mp e4).1
  have ep : p = .tup [.int i, r'] := by
    unfold enumP zipP at hp
    rw [List.getElem?_zipWith] at hp
    simp [hi] at hp
    rw [← hp, List.getElem?_eq_getElem hi] at *
    cases e4
    rfl
  subst ep
  obtain ⟨o2, st2⟩ := o.alloc (o := .tup [.int i, v]) hT
  exact ⟨_, o2, st2, .tup (.of upd_same) (.cons (.int _) (.cons (r4.mono (sm.trans st2.s1)) .nil))⟩
theorem di_enum {p tpos : Pos} {elts : List Expr} {kk : Nat} (hK : X.K = C.K) (hg : Gl X "enumerate") (hm : X.mg "enumerate" = none) (ha : DA X C W [e] fa) (hs : starEach [e] X.env = [(false, eval e X.env)] := by rfl) :
    DI X C W (.Tuple elts kk tpos) (.Call (.Name "enumerate" p) [e] [] pos) (iEnumP fa) := by
  obtain ⟨te, pe, qe⟩ := ha.pr
  refine ⟨_, pi_enum hg hm pe hs, fun F A H σ s Q o p => ?_⟩
  refine qe F A H σ s _ o (p.seq fun l s1 v F1 A1 H1 _ o1 st1 r1 p1 => ?_)
  have fin : ∀ (b : Addr) (xs : List V) (l : List PV), (∀ H2, Same F1 H2 → SqL X.K H2 b xs) → Rps C F1 xs l → Post C W (RI C) F1 A1 H1 σ (.ok (enumP l) s1) Q → Q (Ite X.K b) H1 := fun b xs l hS hr pp => by
    refine Post.now o1 pp ⟨fun H => SqL X.K H b xs, _, ?_, hS, enum_ok hr⟩
    rw [enumP_len, ← hr.length]
    exact walk_enum
  split at p1
  · obtain ⟨u, rfl, h⟩ := rps1 r1
    cases h with
    | @lst b xs l h1 h2 => exact ⟨b, xs, rfl, .of (o1.sub _ _ h1), fin b xs _ (fun H2 sm => .of (sm _ _ h1)) h2 p1⟩
  · obtain ⟨u, rfl, h⟩ := rps1 r1
    cases h with
    | @scr b xs l h1 h2 => exact ⟨b, xs, rfl, by rw [hK]; exact o1.sub.seq h1, fin b xs _ (fun H2 sm => by rw [hK]; exact sm.seq h1) h2 p1⟩
  · exact p1.elim
theorem di_zip {p tpos : Pos} {elts : List Expr} {kk : Nat} {e2 : Expr} (hK : X.K = C.K) (hg : Gl X "zip") (hm : X.mg "zip" = none) (ha : DA X C W [e, e2] fa)
    (hs : starEach [e, e2] X.env = (false, eval e X.env) :: starEach [e2] X.env := by rfl) (hpl : (backTo pos (starEach [e2] X.env)).any (·.1) = false := by rfl) :
    DI X C W (.Tuple elts kk tpos) (.Call (.Name "zip" p) [e, e2] [] pos) (iZipP fa) := by
  obtain ⟨te, pe, qe⟩ := ha.pr
  refine ⟨_, pi_zip hg hm pe hs hpl, fun F A H σ s Q o p => ?_⟩
  refine qe F A H σ s _ o (p.seq fun l s1 v F1 A1 H1 _ o1 st1 r1 p1 => ?_)
  split at p1
  · rename_i l m _
    obtain ⟨u, w, rfl, h, h'⟩ := rps2 r1
    cases h with
    | @lst b xs _ h1 h2 =>
      cases h' with
      | @lst d ys _ h3 h4 =>
        refine ⟨b, d, xs, ys, rfl, .of (o1.sub _ _ h1), .of (o1.sub _ _ h3), Post.now o1 p1 ⟨fun H => SqL X.K H b xs ∧ SqL X.K H d ys, _, ?_, fun H2 sm => ⟨.of (sm _ _ h1), .of (sm _ _ h3)⟩, ypair_ok h2 h4 ?_⟩⟩
        · refine walk_zip ?_
          rw [zipP, List.length_zipWith, h2.length, h4.length]
        · intro i p hp
          unfold zipP at hp
          rw [List.getElem?_zipWith] at hp
          cases e1 : l[i]? with
          | none => rw [e1] at hp; simp at hp
          | some q =>
            cases e2 : m[i]? with
            | none => rw [e1, e2] at hp; simp at hp
            | some r =>
              rw [e1, e2] at hp
              simp at hp
              exact ⟨q, r, rfl, rfl, hp.symm⟩
  · exact p1.elim
/-- a slice of a list, a tuple, the script -/
def eSl (fa : Stt → Res PV) (fl fh : Stt → Res (Option Int)) : Stt → Res PV := fun s => (fa s).bind fun p s1 => (fl s1).bind fun lo s2 => (fh s2).bind fun hi s3 => match p with
  | .tup l => .ok (.tup (pCut l lo hi)) s3
  | .lst l => .ok (.lst (pCut l lo hi)) s3
  | .scr l => .ok (.lst (pCut l lo hi)) s3
  | _ => .stuck
theorem dv_sl {lo hi : Option Expr} {fl fh : Stt → Res (Option Int)} {p2 : Pos} (hK : X.K = C.K) (ha : DV X C W a fe) (hl : DP X C W lo fl) (hh : DP X C W hi fh) : DV X C W (.Subscript a (.Slice lo hi none p2) pos) (eSl fe fl fh) := by
  obtain ⟨ta, pa, qa⟩ := ha.pr
  obtain ⟨tl, pl, ql⟩ := hl.pr
  obtain ⟨th, ph, qh⟩ := hh.pr
  refine ⟨_, pe_slice (sl_tupA.or sl_list) pa pl ph, fun F A H σ s Q o p => ?_⟩
  refine qa F A H σ s _ o (p.seq fun q1 s1 v1 F1 A1 H1 _ o1 st1 r1 p1 => ?_)
  refine ql F1 A1 H1 σ s1 _ o1 (p1.seq fun l2 s2 v2 F2 A2 H2 _ o2 st2 r2 p2 => ?_)
  refine qh F2 A2 H2 σ s2 _ o2 (p2.seq fun l3 s3 v3 F3 A3 H3 _ o3 st3 r3 p3 => ?_)
  have r2 : v2 = l2 := r2
  have r3 : v3 = l3 := r3
  subst r2 r3
  have rm := r1.mono (st2.s1.trans st3.s1)
  cases rm with
  | @tup b xs l h1 h2 =>
    refine .inl ⟨b, xs, rfl, by rw [hK]; exact sqT_mono o3.sub h1, fun hw => ?_, fun _ q hq => ?_⟩
    · have e : cutV xs v2 v3 = xs := by
        unfold cutV
        rw [hw.1, hw.2]
        simp
      have rc := h2.cut v2 v3
      rw [e] at rc
      exact p3 _ F3 A3 H3 o3 .refl (.tup h1 rc)
    · obtain ⟨o4, st4⟩ := o3.alloc (o := .tup (cutV xs v2 v3)) hq
      exact p3 _ _ _ _ o4 st4 (.tup (.of upd_same) ((h2.cut v2 v3).mono st4.s1))
  | @lst b xs l h1 h2 =>
    refine .inr ⟨b, xs, rfl, .of (o3.sub _ _ h1), fun q hq => ?_⟩
    obtain ⟨o4, st4⟩ := o3.alloc (o := .lst (cutV xs v2 v3)) hq
    exact p3 _ _ _ _ o4 st4 (.lst upd_same ((h2.cut v2 v3).mono st4.s1))
  | @scr b xs l h1 h2 =>
    refine .inr ⟨b, xs, rfl, by rw [hK]; exact o3.sub.seq h1, fun q hq => ?_⟩
    obtain ⟨o4, st4⟩ := o3.alloc (o := .lst (cutV xs v2 v3)) hq
    exact p3 _ _ _ _ o4 st4 (.lst upd_same ((h2.cut v2 v3).mono st4.s1))
  | _ => exact p3.elim
/-- list(range(n)), list(range(i, j)) -/
noncomputable def oRg (i j : Int) (s : Stt) : Res MO := if (inR i && inR j) = true ∧ j - i ≤ 16777216 then .ok (.lst (rng i (j - i).toNat)) s else .stuck
noncomputable def oRg1 (fa : Stt → Res PV) : Stt → Res MO := fun s => (fa s).bind fun p s1 => match p with
  | .int j => oRg 0 j s1
  | _ => .stuck
noncomputable def oRg2 (fa fb : Stt → Res PV) : Stt → Res MO := fun s => (fa s).bind fun p s1 => (fb s1).bind fun q s2 => match p, q with
  | .int i, .int j => oRg i j s2
  | _, _ => .stuck
theorem rg_fresh {F H : Hp} {A : Nat → List Addr} {σ : L2.St} {s : Stt} {Q : VK} {i j : Int} (o : OkF C F A H σ s) (p : PostO C W F A H σ (oRg i j s) Q) : RgOk i j ∧ ∀ q, H q = none → Q (.ref q) (upd H q (.lst (rgV i j))) := by
  unfold oRg at p
  split at p
  · rename_i h
    obtain ⟨h0, h5⟩ := h
    rw [Bool.and_eq_true] at h0
    obtain ⟨h1, h2⟩ := inR_iff.mp h0.1
    obtain ⟨h3, h4⟩ := inR_iff.mp h0.2
    refine ⟨⟨h1, h2, h3, h4, by omega⟩, fun q hq => ?_⟩
    have hr : Rps C F (rgV i j) (rng i (j - i).toNat) := by
      unfold rgV rng
      have key : ∀ l : List Nat, Rps C F (l.map fun k => V.int (i + (k : Nat))) (l.map fun k : Nat => PV.int (i + k)) := by
        intro l
        induction l with
        | nil => exact .nil
        | cons x r ih => exact .cons (.int _) ih
      exact key _
    obtain ⟨o4, st4, f4⟩ := o.fresh (u := .lst (rgV i j)) (m := .lst (rng i (j - i).toNat)) hq ⟨rfl, _, upd_same, hr⟩
    exact p q _ _ _ o4 st4 f4
  · exact p.elim
theorem do_rg1 {p pos2 : Pos} {p2 : Pos} (hc : X.calm = true) (hg : Gl X "list") (hm : X.mg "list" = none) (hg2 : Gl X "range") (hm2 : X.mg "range" = none) (ha : DV X C W a fe)
    (na : starEach [.Call (.Name "range" p2) [a] [] pos2] X.env = (false, eval (.Call (.Name "range" p2) [a] [] pos2) X.env) :: starEach [] X.env := by rfl) (na2 : starEach [a] X.env = (false, eval a X.env) :: starEach [] X.env := by rfl) :
    DO X C W (.Call (.Name "list" p) [.Call (.Name "range" p2) [a] [] pos2] [] pos) (oRg1 fe) := by
  obtain ⟨ta, pa, qa⟩ := ha.pr
  refine ⟨_, pe_listRg hc hg hm (prg_1 hg2 hm2 pa na2) na, fun F A H σ s Q o p => ?_⟩
  refine qa F A H σ s _ o (PostO.seq p fun q1 s1 v1 F1 A1 H1 _ o1 st1 r1 p1 => ?_)
  cases r1 with
  | int j => exact ⟨j, rfl, rg_fresh o1 p1⟩
  | _ => exact p1.elim
theorem do_rg2 {p pos2 : Pos} {p2 : Pos} (hc : X.calm = true) (hg : Gl X "list") (hm : X.mg "list" = none) (hg2 : Gl X "range") (hm2 : X.mg "range" = none) (ha : DV X C W a fe) (hb : DV X C W b fb)
    (na : starEach [.Call (.Name "range" p2) [a, b] [] pos2] X.env = (false, eval (.Call (.Name "range" p2) [a, b] [] pos2) X.env) :: starEach [] X.env := by rfl) (na2 : starEach [a, b] X.env = (false, eval a X.env) :: starEach [b] X.env := by rfl) (na3 : starEach [b] X.env = (false, eval b X.env) :: starEach [] X.env := by rfl) (na4 : (backTo pos2 (starEach [b] X.env)).any (·.1) = false := by rfl) :
    DO X C W (.Call (.Name "list" p) [.Call (.Name "range" p2) [a, b] [] pos2] [] pos) (oRg2 fe fb) := by
  obtain ⟨ta, pa, qa⟩ := ha.pr
  obtain ⟨tb, pb, qb⟩ := hb.pr
  refine ⟨_, pe_listRg hc hg hm (prg_2 hg2 hm2 pa pb na2 na3 na4) na, fun F A H σ s Q o p => ?_⟩
  refine qa F A H σ s _ o (PostO.seq p fun q1 s1 v1 F1 A1 H1 _ o1 st1 r1 p1 => ?_)
  refine qb F1 A1 H1 σ s1 _ o1 (PostO.seq p1 fun q2 s2 v2 F2 A2 H2 _ o2 st2 r2 p2 => ?_)
  cases r1 with
  | int i =>
    cases r2 with
    | int j => exact ⟨i, j, rfl, rfl, rg_fresh o2 p2⟩
    | _ => exact p2.elim
  | _ => cases r2 <;> exact p2.elim
end
end PL

/-! PL12: a list grows; a pair of a value and a new list. -/
namespace PL
open PySem PySem.Spec PyProof.Rows L2
section
variable {X : Cx} {C : Fx} {W : WX} {a b e : Expr} {pos : Pos} {fa fb fe : Stt → Res PV} {fo : Stt → Res MO}
def gParO (i j : Nat) (fa : Stt → Res PV) (fo : Stt → Res MO) : Stt → Fl := fun s => (fa s).fl fun p s1 => (fo s1).fl fun m s2 => if j < s2.ro.length then .nx (setV i p (setO j m s2)) else .stuck
theorem ds_parO {i j : Nat} {x y : Str} {px py pt : Pos} {kt k2 pt2} (hc : X.calm = true) (hN : X.N.Nodup) (hi : X.N[i]? = some x) (hj : X.N[j]? = some y) (hij : i ≠ j)
    (hx : X.env.scope.names.lookup x = some .local) (hy : X.env.scope.names.lookup y = some .local) (ha : DV X C W a fa) (hb : DO X C W b fo)
    (hw : swappedStores [.Tuple [.Name x px, .Name y py] kt pt] (.Tuple [a, b] k2 pt2) X.env = pure (some [x, y]))
    (hs : swapsWithSole [.Tuple [.Name x px, .Name y py] kt pt] (.Tuple [a, b] k2 pt2) pos.line X.env = pure false := by rfl)
    (he : starEach [a, b] X.env = (false, eval a X.env) :: starEach [b] X.env := by rfl) (he2 : starEach [b] X.env = (false, eval b X.env) :: starEach [] X.env := by rfl) :
    DS X C W (.Assign [.Tuple [.Name x px, .Name y py] kt pt] (.Tuple [a, b] k2 pt2) pos) (gParO i j fa fo) := by
  obtain ⟨ta, pa, qa⟩ := ha.pr
  obtain ⟨tb, pb, qb⟩ := hb.pr
  refine ⟨_, ps_par hc hN hi hj hij hx hy (pa_cons pa (pa_cons pb pa_nil he2) he) hw hs, fun F A H σ s D o p => ?_⟩
  refine qa F A H σ s _ o (PostS.seq p fun v s1 xv F1 A1 H1 _ o1 st1 r1 p1 => ?_)
  refine qb F1 A1 H1 σ s1 _ o1 ?_
  cases hr : fo s1 with
  | ok m s2 =>
    rw [hr] at p1
    intro q F' A' H' o2 st2 fr
    simp only [Res.fl] at p1
    split at p1
    · rename_i hl
      obtain ⟨A2, o3, st3⟩ := o2.setO st2 fr hl
      obtain ⟨o4, st4⟩ := o3.setV (i := i) (r1.mono st3.s1)
      refine ⟨_, _, rfl, ?_⟩
      rw [List.set_comm _ _ (Ne.symm hij)] at o4
      exact p1 _ _ _ _ o4 (st3.trans st4)
    · exact p1.elim
  | ex c v s2 => rw [hr] at p1; exact fun d F' A' H' => p1 d σ F' A' H'
  | stuck => rw [hr] at p1; exact p1
def gApp (i : Nat) (fe : Stt → Res PV) : Stt → Fl := fun s => (getM s i).elim .stuck fun km => match km.2 with
  | .lst _ => (fe s).fl fun p s1 => match getM s1 i with
    | some (k, .lst l) => if l.length < 16777216 then .nx (setK s1 k (.lst (l ++ [p]))) else .stuck
    | _ => .stuck
  | _ => .stuck
theorem ds_app (i : Nat) {x : Str} {p p2 p3 : Pos} (he : DV X C W e fe) (hN : X.N[i]? = some x := by rfl) (hvis : Vis X.env.scope x := by first | exact Or.inl rfl | exact Or.inr (Or.inl rfl) | exact Or.inr (Or.inr rfl)) (hd : (x == ("__debug__" : Str)) = false := by decide)
    (hcd : (x == ("__classdict__" : Str)) = false := by decide) (hs : swapsWith (.Call (.Attribute (.Name x p) "append" p2) [e] [] p3) none pos.line X.env = pure false := by rfl)
    (hbase : attributeBase (.Name x p) "append" X.env (eval (.Name x p) X.env) = eval (.Name x p) X.env := by rfl)
    (hfew : ((backTo p3 (starEach [e] X.env)).all (fun x => !x.1) && (backToKw p3 (keywordEach [] X.env)).all (fun x => x.1.isSome)
      && decide (([e] : List Expr).length + ([] : List Keyword).length + (if ([] : List Keyword).isEmpty then 0 else 1) < 30)) = true := by rfl)
    (hline : (p2.endLine == p3.line) = true := by rfl) (hst : starEach [e] X.env = (false, eval e X.env) :: starEach [] X.env := by rfl) (hplain : (backTo p3 (starEach [] X.env)).any (·.1) = false := by rfl) :
    DS X C W (.Expr (.Call (.Attribute (.Name x p) "append" p2) [e] [] p3) pos) (gApp i fe) := by
  obtain ⟨te, pe, qe⟩ := he.pr
  refine ⟨_, ps_expr (pe_bm PySem.F.plainAttrs_list PySem.F.slot_list_append PySem.F.type_list_append mt_append (pe_var (i := i) hN hvis hd hcd) (pa_cons pe pa_nil hst) hbase hfew hline hst hplain) hs, fun F A H σ s D o pp => ?_⟩
  cases e0 : getM s i with
  | none => unfold gApp at pp; rw [e0] at pp; exact pp.elim
  | some km =>
    obtain ⟨k0, m0⟩ := km
    unfold gApp at pp
    rw [e0] at pp
    simp only [Option.elim_some] at pp
    cases m0 with
    | lst l0 =>
      simp only at pp
      obtain ⟨_, g0, ⟨_, xs0, hx0, _⟩⟩ := mut_at o e0
      refine ⟨_, g0, .inl ⟨rfl, _, SqL.of hx0⟩, ?_⟩
      refine qe F A H σ s _ o (PostS.seq pp fun pv s1 xv F1 A1 H1 _ o1 st1 r1 p1 => ?_)
      cases e1 : getM s1 i with
      | none => simp only [e1] at p1; exact p1.elim
      | some km2 =>
        obtain ⟨k, m⟩ := km2
        simp only [e1] at p1
        cases m with
        | lst l =>
          simp only at p1
          split at p1
          · rename_i hl
            obtain ⟨g1, g2, g3⟩ := mut_at o1 e1
            obtain ⟨_, xs, hx, hr⟩ := g3
            rw [g0] at g2
            have ea : adr σ C k0 = adr σ C k := V.ref.inj (Option.some.inj (Option.some.inj g2))
            refine ⟨_, xs, xv, rfl, rfl, by rw [ea]; exact hx, by rw [hr.length]; exact hl, ?_⟩
            rw [ea]
            obtain ⟨o3, st3⟩ := o1.updL g1 (Rps.append hr (.cons r1 .nil))
            exact p1 _ _ _ _ o3 st3
          · exact p1.elim
        | _ => exact p1.elim
    | _ => exact pp.elim
end
end PL

/-! PXE: an own error whose __init__ says super().__init__(value) and keeps value; its classes' classes. -/
namespace PXE
open PySem PySem.W PySem.Calls PyProof.Rows PySem.HandSPX
def xA (p1 p2 : Pos) : Arguments := { posonlyargs := [], args := [{ arg := "self", annotation := none, pos := p1 }, { arg := "value", annotation := none, pos := p2 }], vararg := none, kwonlyargs := [], kw_defaults := [], kwarg := none, defaults := [] }
abbrev xC (n : Nat) : Expr := .Call (.Attribute (.Call (.Name "super" ⟨n, 8, n, 13⟩) [] [] ⟨n, 8, n, 15⟩) "__init__" ⟨n, 8, n, 24⟩) [.Name "value" ⟨n, 25, n, 30⟩] [] ⟨n, 8, n, 31⟩
def xB (n : Nat) (q1 q2 q3 q4 : Pos) : List Stmt := [.Expr (xC n) ⟨n, 8, n, 31⟩, .Assign [.Attribute (.Name "self" q1) "value" q2] (.Name "value" q3) q4]
def xS : Scope := { kind := .function, names := [(PySem.Str.ofString "self", .local), (PySem.Str.ofString "value", .local), (PySem.Str.ofString "__class__", .free), (PySem.Str.ofString "super", .globalImplicit)], isGenerator := false, isCoroutine := false, more := [] }
abbrev veBm : List Value := [.type "ValueError", .type "Exception", .type "BaseException", .type "object"]
/-- what the written part says of an error class nm at C; D: the class whose __init__ stands at fI -/
structure ErrTxt (prog : Program) (K : Frag) (mg : Str → Option Value) (nm : Str) (C D fI : Addr) : Prop where
  gC : mg nm = some (.ref C)
  cls : ∃ n q N bs bm sn sub ab col dd k0 k1 k2 k3 k5, K.lookup C = some (excClassObj n q C N bs bm true sn sub ab col dd k0 k1 k2 k3 k5 "ValueError.__new__") ∧ refsVE bm = true
  sa : findIn K (.ref C) "__setattr__" = some (some (.builtin "object.__setattr__"))
  ga : findIn K (.ref C) "__getattribute__" = some (some (.builtin "BaseException.__getattribute__"))
  gg : findIn K (.ref C) "__getattr__" = some none
  noN : findIn K (.ref C) "value" = some none
  iC : findIn K (.ref C) "__init__" = some (some (.ref fI))
  tC : typeIn K (.ref fI) = some (.type "function")
  kC : keepIn K (.ref C) = true
  exC : subIn K (.ref C) (.type "BaseException") = some true
  veC : subIn K (.ref C) (.type "ValueError") = some true
  tyC : typeIn K (.ref C) = some (.type "type")
  hdC : hasDictIn K C = true
  te : exmOne K (.ref C) (.ref C) = some true
  sup : ks_superIn K C D "__init__" = some (some (.builtin "ValueError.__init__"))
  any : nsIn K cStatics "thirdparty.any" = some none
  mroD : mroIn K C (.ref D) = some true
  clsD : ∃ cdD, clsIn K D = some cdD
  nsup : mg "super" = none
  top : (prog.main.scope.names.lookup ("super" : Str)).isSome = false
  fn : ∃ (oc : Value) (od : Option Addr) (doc pm : Value) (an : Option Addr) (cda cc : Addr) (ct : Value) (osl : Array (Option Value)) (n : Nat) (p1 p2 q1 q2 q3 q4 : Pos) (ccl cl : Value) (cdd cld : Option Addr) (vs : Array Value) (ccs csl : Array (Option Value)) (file : Str) (tf : Tok),
    K.lookup fI = some ⟨oc, od, .func (ksFn "__init__" "StrideError.__init__" (xA p1 p2) (xB n q1 q2 q3 q4) xS .none .none doc pm an (.ref cda) ct cc), osl⟩ ∧ codeIn K (.ref cda) "StrideError.__init__" = true ∧
    K.lookup cda = some ⟨ccl, cdd, .fields vs, ccs⟩ ∧ vs[2]? = some (.str file tf) ∧ ((prog.main.file : Str) == file) = true ∧ K.lookup cc = some ⟨cl, cld, .cell (some (.ref D)), csl⟩ ∧ (n = 5 ∨ n = 8)
theorem one_len (v : Value) : [v].length ≤ sizeLine := by
  rw [sizeLine_eq]
  exact (by decide : 1 ≤ 16777216)
section
variable {prog : Program} {w : World} {A : Around} {E : Value → Shared → Prop} {R : Result → Shared → Prop} {s : Shared} {K : Frag} {mg mb : Str → Option Value} {nm : Str} {C D fI : Addr}
/-- the built-in __init__, bound to x at u, called: the args are laid anew -/
theorem bound_call (T : ErrTxt prog K mg nm C D fI) {u x t0 : Addr} {v : Value} {Q : Value → Shared → Prop} (X : K.In s.heap) (hx : s.heap.get? x = some (excO C t0)) (hu : s.heap.get? u = some (kxs_mw "ValueError.__init__" x))
    (hq : ∀ h', (∀ b o, b ≠ x → s.heap.get? b = some o → h'.get? b = some o) → h'.get? x = some (excO C s.heap.objs.size) → Q .none { s with heap := h' }) :
    wpAny (model prog w) A (call (.ref u) [v]) Q E s := by
  obtain ⟨n, q, N, bs, bm, sn, sub, ab, col, dd, k0, k1, k2, k3, k5, hC, hbm⟩ := T.cls
  obtain ⟨hp, g, d, tk, os⟩ := s
  refine wpAny_call (codeAny_of_tree ?_)
  show wpAny _ A.in1 (callAny (.ref u) ⟨[v], []⟩) _ _ _
  unfold callAny
  refine wpAny_bind (wpAny_load hu ?_)
  have e1 : (Value.type "method-wrapper" == Value.type "method" || Value.type "method-wrapper" == Value.type "builtin_function_or_method" || Value.type "method-wrapper" == Value.type "method-wrapper") = true := by decide
  dsimp only [kxs_mw]
  rw [if_pos e1]
  refine KFB.if_so (by decide) (wpAny_bind (check_bound_init F.excBase_ValueError.toExcCallFacts (X _ _ hC) hx rfl (wpAny_bind (wpAny_pure (wpAny_pure ⟨plainId_quiet F.excBase_ValueError.init.plain _, codeAny_builtin F.excBase_ValueError.initEntry ?_⟩)))))
  exact exc_init_tree (cls := .ref C) (t0 := t0) (dv := none) (c2 := .none) (c3 := .none) (b4 := .bool false) hx (one_len v) fun h' k' e' _ => hq h' k' e'
/-- what __init__ leaves of a fresh exception at x -/
structure Left (h h' : Heap) (x C dx t1 : Addr) (v : Value) : Prop where
  keep : ∀ b o, b ≠ x → h.get? b = some o → h'.get? b = some o
  obj : h'.get? x = some { cls := .ref C, dict := some dx, data := .fields #[.ref t1, .none, .none, .none, .bool false, .none] }
  dbig : h.objs.size ≤ dx
  dne : dx ≠ x
  ns : h'.Ns1 dx (fun y => if y = "value" then some v else none)
theorem locC {M : Model} {env : Env} {m : Str → Option Value} {x : Str} {pos : Pos} {v : Value} {Q : Value → Shared → Prop} (hn : s.heap.Ns env.locals m) (hv : m x = some v) (h : Q v s)
    (hk : env.scope.kind = .function := by rfl) (hl : env.kindOf x = some .local := by rfl) (hd : (x == ("__debug__" : Str)) = false := by decide) :
    wpAny M A (eval (.Name x pos) env) Q E s := wpAny_Name (wpAny_loadName_local hk hl hn hv h) hd
theorem err_init (T : ErrTxt prog K mg nm C D fI) {x t0 : Addr} {v : Value} (X : K.In s.heap) (hg : s.heap.Ns mainGlobals mg) (hb : s.heap.Ns builtinsNs mb) (hbt : ∀ y : Str, y ≠ "__name__" → mb y = bootBuiltins y) (hlim : s.heap.NoLimit) (hx : s.heap.get? x = some (excO C t0)) (hnx : K.lookup x = none) (hroom : A.depth < recursionLimit)
    (hq : ∀ h' tk dx t1, Left s.heap h' x C dx t1 v → R (.ok (.ret .none)) { s with heap := h', toks := tk }) :
    codeAny (model prog w) A (.call (.ref fI) ⟨[.ref x, v], []⟩) R s := by
  obtain ⟨oc, od, doc, pm, an, cda, cc, ct, osl, n, p1, p2, q1, q2, q3, q4, ccl, cl, cdd, cld, vs, ccs, csl, file, tf, ho, hcd, hcode, hvs, hfile, hcell, hnn⟩ := T.fn
  obtain ⟨nn, q, N, bs, bm, sn, sub, ab, col, dd, k0, k1, k2, k3, k5, hC, hbm⟩ := T.cls
  have hcl : clsIn K C = some { name := nn, bases := bs, mro := .ref C :: bm, ns := N, qualname := q, hasDict := true, slotNames := sn, subclasses := sub, abstract := ab, collection := col, hasDel := false } := by unfold clsIn; rw [hC] <;> rfl
  have hsup : alongIn K "__init__" (((Value.ref C :: bm).dropWhile (· != .ref D)).drop 1) = some (some (.builtin "ValueError.__init__")) := by
    have z := T.sup
    unfold ks_superIn at z
    rw [hcl, Option.bind_some] at z
    exact z
  obtain ⟨cdD, hD⟩ := T.clsD
  have c1 : ∀ y ∈ xS.names, y.2 ≠ .cell := by decide
  have c2 : ∀ y ∈ [(("self" : Str), Value.ref x), ("value", v)], xS.names.lookup y.1 = some .local := by
    intro y hy
    rcases List.mem_cons.mp hy with rfl | hy
    · exact (by decide +kernel : xS.names.lookup ("self" : Str) = some .local)
    · rcases List.mem_cons.mp hy with rfl | hy
      · exact (by decide +kernel : xS.names.lookup ("value" : Str) = some .local)
      · cases hy
  refine ks_codeAny_call_defAt (fd := ksFn "__init__" "StrideError.__init__" (xA p1 p2) (xB n q1 q2 q3 q4) xS .none .none doc pm an (.ref cda) ct cc) (body := xB n q1 q2 q3 q4) (binds := [("self", .ref x), ("value", v)])
    hroom (X _ _ ho) rfl hlim (codeRec_of X hcd) rfl (BindsTo.of_eq (by first | rfl | with_unfolding_all rfl)) c1 c2 (fun h₁ hn k => ?_)
  have X₁ : K.In h₁ := X.keeps k
  have hxL : s.heap.objs.size ≠ x := Nat.ne_of_gt (Heap.lt_size hx)
  have hx₁ := k _ _ hx
  have hLz : s.heap.objs.size < h₁.objs.size := hn.lt
  obtain ⟨oD, hD1, hD2⟩ : ∃ oD, h₁.get? D = some oD ∧ oD.data = .cls cdD := by
    unfold clsIn at hD
    split at hD
    · rename_i c d cd' sl hoD
      cases hD
      exact ⟨_, X₁ _ _ hoD, rfl⟩
    · cases hD
  have hxC : x ≠ C := by
    intro z
    have e := X _ _ hC
    rw [← z, hx] at e
    cases e
  -- super().__init__(value)
  obtain ⟨pl, he⟩ : ∃ pl : Sem Bool, eval (xC n) (ksEnv "StrideError.__init__" xS s.heap.objs.size fI (.ref cda) cc) = (do
      let ov ← attributeBase (.Call (.Name "super" ⟨n, 8, n, 13⟩) [] [] ⟨n, 8, n, 15⟩) "__init__" (ksEnv "StrideError.__init__" xS s.heap.objs.size fI (.ref cda) cc) (eval (.Call (.Name "super" ⟨n, 8, n, 13⟩) [] [] ⟨n, 8, n, 15⟩) (ksEnv "StrideError.__init__" xS s.heap.objs.size fI (.ref cda) cc))
      standAt (Pos.atName ⟨n, 8, n, 24⟩)
      let (f, first) ← holding [ov] (getMethod ov "__init__" pl)
      callWith ⟨n, 8, n, 31⟩ f first (backTo ⟨n, 8, n, 31⟩ (starEach [.Name "value" ⟨n, 25, n, 30⟩] (ksEnv "StrideError.__init__" xS s.heap.objs.size fI (.ref cda) cc))) []) := by
    rcases hnn with rfl | rfl <;> exact ⟨_, rfl⟩
  refine ks_wpAt_execs_cons (ks_wpAt_Expr_any (ks_wpAt_MethodCall (pl := pl) ?_ he))
  refine ks_wpAt_super_base (env := ksEnv "StrideError.__init__" xS s.heap.objs.size fI (.ref cda) cc) rfl rfl rfl rfl (X₁ _ _ ho) rfl rfl rfl (X₁ _ _ hcode) rfl hvs hfile T.top ?_
  refine ks_loadName_global rfl rfl (loadGlobal_builtin (env := ksEnv "StrideError.__init__" xS s.heap.objs.size fI (.ref cda) cc) (hg.keeps k) T.nsup (hb.keeps k) ((hbt _ (by decide +kernel)).trans (by first | rfl | kernel_rfl | decide +kernel)) ⟨rfl, ?_⟩)
  refine wpAny_loadName_free rfl rfl rfl ⟨_, X₁ _ _ hcell, rfl⟩ ?_
  refine wpAny_loadName_local rfl rfl hn (by first | rfl | with_unfolding_all rfl | kernel_rfl) ?_
  refine ks_wpAny_isType_cls hD1 hD2 ⟨rfl, ?_⟩
  refine ks_wpAny_call_super hD1 hD2 hx₁ rfl (fun c e => by cases e) (looks_mroIn X₁ T.mroD) (fun h2 e2 k2 => ?_)
  have kk : ∀ b o, s.heap.get? b = some o → h2.get? b = some o := fun b o e => k2 b o (k b o e)
  have X₂ : K.In h2 := X.keeps kk
  have I₂ : InstAt h2 x (excO C t0) C none := ⟨k2 _ _ hx₁, rfl, rfl, trivial⟩
  refine kxs_getMethod (K := K) (C := C) (D := D) kxs_ValueError e2 (looks_opaque X₂ T.any) (l₀ := .ref C :: bm) (l := ((Value.ref C :: bm).dropWhile (· != .ref D)).drop 1) (fun A Q E s k q => wpAny_bind ((looks_clsIn X₂ hcl) A _ E s k (wpAny_pure q))) rfl X₂ hsup (I₂.type.andThen (looks_subIn X₂ T.veC)) hxC rfl ?_
  have hu : (h2.push (kxs_mw "ValueError.__init__" x)).get? h2.objs.size = some (kxs_mw "ValueError.__init__" x) := Heap.get?_push_at rfl rfl
  have k3 : ∀ b o, s.heap.get? b = some o → (h2.push (kxs_mw "ValueError.__init__" x)).get? b = some o := fun b o e => Heap.get?_push_of_some _ (kk b o e)
  have hn3 : (h2.push (kxs_mw "ValueError.__init__" x)).Ns s.heap.objs.size (fun y => [(("self" : Str), Value.ref x), ("value", v)].reverse.lookup y) := hn.keeps fun b o e => Heap.get?_push_of_some _ (k2 b o e)
  refine kxs_callWith (i := "ValueError.__init__") (x := x) rfl (Calls.evalArgs_plain (Calls.spliced_cons (locC (v := v) hn3 (by first | rfl | with_unfolding_all rfl | kernel_rfl) (Calls.spliced_nil ⟨hu, ?_⟩))))
  refine bound_call T (s := ⟨h2.push (kxs_mw "ValueError.__init__" x), _, _, _, _⟩) (X.keeps k3) (k3 _ _ hx) hu (fun h4 k4 hx4 => ?_)
  -- self.value = value
  have hxs : x ≠ s.heap.objs.size := Ne.symm hxL
  have k5 : ∀ b o, b ≠ x → s.heap.get? b = some o → h4.get? b = some o := fun b o hb e => k4 b o hb (k3 b o e)
  have X₄ : K.In h4 := fun a o e => k5 a o (fun z => by rw [z, hnx] at e; cases e) (X a o e)
  have hn4 : h4.Ns s.heap.objs.size (fun y => [(("self" : Str), Value.ref x), ("value", v)].reverse.lookup y) := by
    obtain ⟨oL, es, ep, hL, r⟩ := hn3
    exact ⟨oL, es, ep, k4 _ _ hxL hL, r⟩
  refine ks_wpAt_execs_cons (ks_wpAt_Assign_Attr (wpAt_of_wpAny (locC (v := v) hn4 (by first | rfl | with_unfolding_all rfl | kernel_rfl) (locC (v := .ref x) hn4 (by first | rfl | with_unfolding_all rfl | kernel_rfl) ?_))))
  refine set_plain X₄ (ox := excO C _) (od := none) ⟨hx4, rfl, rfl, trivial⟩ T.sa ?_
  refine exc_osa X₄ hx4 hcl (show refsVE (.ref C :: bm) = true from hbm) rfl T.noN (fun h6 tk6 dx k6 dn dne hx6 hn6 => ?_)
  refine wpAt_of_wpAny (wpAny_execs_nil (hq h6 tk6 dx _ ⟨fun b o hb e => k6 b o hb (k5 b o hb e), hx6, ?_, dne, hn6⟩))
  exact Nat.le_of_lt (Nat.lt_of_lt_of_le hn4.lt dn)
/-- a made error -/
structure Made (h h' : Heap) (e C d : Addr) (v : Value) : Prop where
  keep : ∀ b o, h.get? b = some o → h'.get? b = some o
  new : h.objs.size ≤ e
  obj : ∃ oe vs, h'.get? e = some oe ∧ oe.cls = .ref C ∧ oe.dict = some d ∧ oe.data = .fields vs ∧ vs[1]? = some .none
  dbig : h.objs.size ≤ d
  dne : d ≠ e
  ns : h'.Ns1 d (fun y => if y = "value" then some v else none)
theorem err_made (T : ErrTxt prog K mg nm C D fI) {v : Value} (X : K.In s.heap) (hg : s.heap.Ns mainGlobals mg) (hb : s.heap.Ns builtinsNs mb) (hbt : ∀ y : Str, y ≠ "__name__" → mb y = bootBuiltins y) (hlim : s.heap.NoLimit) (hroom : A.depth + 1 < recursionLimit)
    (hq : ∀ h' tk e d, Made s.heap h' e C d v → R (.ok (.ret (.ref e))) { s with heap := h', toks := tk }) :
    codeAny (model prog w) A (.call (.ref C) ⟨[v], []⟩) R s := by
  obtain ⟨nn, q, N, bs, bm, sn, sub, ab, col, dd, k0, k1, k2, k3, k5, hC, hbm⟩ := T.cls
  obtain ⟨hp, g, dr, tk, os⟩ := s
  have k : ∀ b o, hp.get? b = some o → ((hp.push (kdv_tup [v])).push (excO C hp.objs.size)).get? b = some o := fun b o e => Heap.get?_push_of_some _ (Heap.get?_push_of_some _ e)
  have hget : ((hp.push (kdv_tup [v])).push (excO C hp.objs.size)).get? (hp.objs.size + 1) = some (excO C hp.objs.size) := by heap_get
  have hnx : K.lookup (hp.objs.size + 1) = none := by
    cases e : K.lookup (hp.objs.size + 1) with
    | none => rfl
    | some o => exact absurd (Nat.lt_of_succ_lt (Heap.lt_size (show hp.get? (hp.objs.size + 1) = some o from X _ _ e))) (Nat.lt_irrefl _)
  refine call_own F.excBase_ValueError (fun Y => refsVE_contains Y bm hbm) (X _ _ hC) (looks_findIn X T.iC) (fun self => bind_fn X self T.tC) (one_len v) ?_
  refine err_init (s := ⟨(hp.push (kdv_tup [v])).push (excO C hp.objs.size), g, dr, tk, os⟩) T (X.keeps k) (hg.keeps k) (hb.keeps k) hbt (hlim.keeps k) hget hnx hroom fun h' tk' dx t1 L => ?_
  obtain ⟨k', hx, dn, dne, hns⟩ := L
  have old : ∀ b o, hp.get? b = some o → h'.get? b = some o := fun b o e => k' b o (Nat.ne_of_lt (Nat.lt_succ_of_lt (Heap.lt_size e))) (k b o e)
  have z : hp.objs.size ≤ dx := by
    have q := dn
    rw [Heap.size_push, Heap.size_push] at q
    omega
  exact ⟨rfl, hq h' tk' (hp.objs.size + 1) dx ⟨old, Nat.le_succ _, ⟨_, _, hx, rfl, rfl, rfl, rfl⟩, z, dne, hns⟩⟩
end
end PXE

/-! PL13: raise E(v), E an own error. -/
namespace PL
open PySem PySem.Spec PyProof.Rows L2
theorem rel_err {v : V} {v' : Value} (r : RelV v v') (f : Str) : RelO (List.lookup f [(("value" : Str), v)]) (if f = "value" then some v' else none) := by
  by_cases hw : f = "value"
  · subst hw
    rw [if_pos rfl, show List.lookup ("value" : Str) [(("value" : Str), v)] = some v by simp [List.lookup]]
    exact r
  · rw [if_neg hw, show List.lookup f [(("value" : Str), v)] = none by simp [List.lookup, show (f == ("value" : Str)) = false by simpa using hw]]
    trivial
section
variable {X : Cx} {Cc D fI : Addr} {nm : Str}
/-- E(e) -/
def tMkErr (Cc : Addr) (ta : TA) : L2.St → Hp → XK → Prop := fun σ H Q => ta σ H fun vs H1 => ∃ v, vs = [v] ∧ ∀ d, H1 d = none → Q (.ref Cc) (some d) (upd H1 d (.xd [(("value" : Str), v)]))
theorem pmk_err {a : Expr} {ta : TA} {p pos : Pos} {k : Nat} (T : PXE.ErrTxt X.prog X.K X.mg nm Cc D fI) (hr : Room k X.A) (ha : PA X [a] ta) (hg : Gl X nm) (hdb : (nm == ("__debug__" : Str)) = false)
    (he : starEach (a :: []) X.env = (false, eval a X.env) :: starEach [] X.env := by rfl) (hpl : (backTo pos (starEach [] X.env)).any (·.1) = false := by rfl) :
    PMk X (.Call (.Name nm p) [a] [] pos) (tMkErr Cc ta) := by
  intro pins s σ H Q I h
  refine wpAny_Call_Name_kw (ld_glob I hg T.gC ?_ hdb)
  refine PySem.W.callWith_K (h₀ := X.base) I.ok.mod.kin T.kC (thn (ha.run pos pins s σ H _ I h) fun us s1 hh => ?_) he hpl
  obtain ⟨vs, H1, I1, r1, v, ev, q1⟩ := hh
  subst ev
  refine ⟨I1.kIn, ?_⟩
  cases r1 with
  | cons rv rn =>
    rename_i v' us'
    cases rn
    show wpAny _ _ (call (.ref Cc) [v']) _ _ _
    have hlim := I1.nolimit
    obtain ⟨mb, hb1, hb2⟩ := I1.mod.blt
    have hgl := I1.mod.glob.keeps I1.bk
    have hbl := hb1.keeps I1.bk
    have hK := I1.kIn
    obtain ⟨hp, g, dr, tk, os⟩ := s1
    refine wpAny_call (PXE.err_made T hK hgl hbl hb2 hlim (by have := hr.dp; omega) fun h' tk' e d M => ?_)
    show MkP X pins σ Q (.ref e) ⟨h', g, dr, tk', os⟩
    obtain ⟨oe, fv, hoe, hc, hd, hdat, h1⟩ := M.obj
    have hns := M.ns
    obtain ⟨G', g1, g2⟩ := restrict h' fun b => decide (b ≠ e)
    have gk : ∀ b, b ≠ e → G'.get? b = h'.get? b := fun b hb => g1 b (decide_eq_true hb)
    have ge : G'.get? e = none := g2 e (by simp)
    have old : ∀ b o, hp.get? b = some o → G'.get? b = some o := fun b o q => (gk b (Nat.ne_of_lt (Nat.lt_of_lt_of_le (Heap.lt_size q) M.new))).trans (M.keep b o q)
    have ob : ObjOk X.prog X.w (upd H1 d (.xd [(("value" : Str), v)])) G' d (.xd [(("value" : Str), v)]) := ⟨_, hns.at (fun o q => (gk d M.dne).trans q), fun f => rel_err rv f⟩
    have J : Inv X pins σ (upd H1 d (.xd [(("value" : Str), v)])) ⟨G', g, dr, tk', os⟩ := I1.laid (t' := tk') old M.dbig ob
    refine ⟨e, oe, fv, ⟨G', g, dr, tk', os⟩, _, .ref Cc, some d, rfl, J, fun b o q => ?_, ge, hoe, ⟨hc, hd⟩, hdat, h1, ?_, rfl, I1.bare, raises_own T.exC T.tyC, q1 d (I1.hok.fresh M.dbig)⟩
    · by_cases hb : b = e
      · have q' : G'.get? b = some o := q
        rw [hb, ge] at q'; cases q'
      · exact (gk b hb).symm.trans q
    · rw [upd_ne (Ne.symm M.dne)]
      exact I1.hok.fresh M.new
end
/-- an object laid that the state does not know -/
theorem OkF.laidX {C : Fx} {F H : Hp} {A : Nat → List Addr} {σ : L2.St} {s : Stt} {p : Addr} {u : HO} (o : OkF C F A H σ s) (hp : H p = none) : OkF C F A (L2.upd H p u) σ s ∧ Step C F A H F A (L2.upd H p u) := by
  have sH : Same H (L2.upd H p u) := fun b z e => by rw [L2.upd_ne (ne_of_none e hp)]; exact e
  have nA : ∀ i, p ∉ A i := fun i z => (o.free i p z).2 hp
  refine ⟨⟨o.len, o.sub.trans sH, o.val, fun i m e => ?_, o.nb, o.lent, fun q m e => (o.bor q m e).keep (fun _ _ h => h) fun b x _ => sH b x, fun b' b hb => ?_, o.dis, o.freeB, o.disB⟩, ⟨fun _ _ h => h, fun _ h => .inl h, fun _ h => .inl h, fun b x e _ _ => sH b x e, fun b hb => ?_⟩⟩
  · obtain ⟨q, h1, h2⟩ := o.own i m e
    exact ⟨q, h1, h2.keep (fun _ _ h => h) fun b x _ => sH b x⟩
  · obtain ⟨h1, h2⟩ := o.free b' b hb
    have hne : b ≠ p := fun z => nA b' (z ▸ hb)
    exact ⟨h1, by rw [L2.upd_ne hne]; exact h2⟩
  · by_cases hbp : b = p
    · subst hbp; rw [L2.upd_same]; simp
    · rw [L2.upd_ne hbp]; exact hb
section
variable {X : Cx} {C : Fx} {W : WX} {e : Expr} {fe : Stt → Res PV} {pos pos2 : Pos} {Cc D fI : Addr} {nm : Str}
def gRaise (nm : Str) (fe : Stt → Res PV) : Stt → Fl := fun s => (fe s).fl fun p s1 => .ex nm p s1
theorem ds_raise {p : Pos} {k : Nat} (hc : X.calm = true) (T : PXE.ErrTxt X.prog X.K X.mg nm Cc D fI) (hr : Room k X.A) (tk : Takes X W) (hcl : C.cl nm = Cc) (he : DV X C W e fe) (hg : Gl X nm := by rfl) (hdb : (nm == ("__debug__" : Str)) = false := by decide)
    (h1 : starEach (e :: []) X.env = (false, eval e X.env) :: starEach [] X.env := by rfl) (hpl : (backTo pos (starEach [] X.env)).any (·.1) = false := by rfl) :
    DS X C W (.Raise (some (.Call (.Name nm p) [e] [] pos)) none pos2) (gRaise nm fe) := by
  obtain ⟨te, pe, qe⟩ := he.pr
  refine ⟨_, ps_raise hc tk (pmk_err T hr (pa_cons pe pa_nil h1) hg hdb h1 hpl), fun F A H σ s D o pp => ?_⟩
  refine qe F A H σ s _ o (PostS.seq pp fun pv s1 xv F1 A1 H1 _ o1 st1 r1 p1 => ?_)
  refine ⟨xv, rfl, fun d hd => ?_⟩
  obtain ⟨o2, st2⟩ := o1.laidX (u := .xd [(("value" : Str), xv)]) hd
  rw [← hcl]
  exact p1 d σ _ _ _ o2 st2 ⟨xv, upd_same, r1⟩
end
end PL

/-! PL14: the written part's facts of an error class. -/
namespace PXE
open PySem PySem.W PySem.Calls PyProof.Rows PySem.HandSPX
/-- where a class of the module lies -/
def clOf (K : Frag) (nm : Str) : Addr := match nsIn K mainGlobals nm with
  | some (some (.ref a)) => a
  | _ => 0
theorem clOf_at {K : Frag} {nm : Str} {C : Addr} (h : nsIn K mainGlobals nm = some (some (.ref C))) : clOf K nm = C := by
  unfold clOf
  rw [h]
theorem exm_of {K : Frag} {S T : Addr} (h1 : subIn K (.ref S) (.type "BaseException") = some true) (h2 : isClsIn K S = true) (h3 : typeIn K (.ref S) = some (.type "type")) {b : Bool} (h4 : subIn K (.ref T) (.ref S) = some b) : exmOne K (.ref T) (.ref S) = some b := by
  have e1 : (subIn K (.ref S) (.type "BaseException") == some true) = true := by rw [h1] <;> rfl
  have e2 : ((clsIn K S).isSome && typeIn K (.ref S) == some (.type "type")) = true := by
    have h2' : (clsIn K S).isSome = true := h2
    rw [h2', h3] <;> rfl
  show (if (subIn K (.ref S) (.type "BaseException") == some true) = true then (if ((clsIn K S).isSome && typeIn K (.ref S) == some (.type "type")) = true then subIn K (.ref T) (.ref S) else none) else none) = some b
  rw [if_pos e1, if_pos e2]
  exact h4
theorem along_ve (K : Frag) : alongIn K "__init__" veBm = some (some (.builtin "ValueError.__init__")) := by kernel_rfl
theorem sup_of {K : Frag} {C D N : Addr} {n q : Str} {bs : List Value} {sn : List Str} {sub : List Value} {ab : Bool} {col : Option Bool} {dd : Option Addr} {k0 k1 k2 k3 k5 : Option Value}
    (xC : K.lookup C = some (excClassObj n q C N bs (.ref D :: veBm) true sn sub ab col dd k0 k1 k2 k3 k5 "ValueError.__new__")) (ne : (Value.ref C != Value.ref D) = true) : ks_superIn K C D "__init__" = some (some (.builtin "ValueError.__init__")) := by
  have hcl : clsIn K C = some { name := n, bases := bs, mro := .ref C :: .ref D :: veBm, ns := N, qualname := q, hasDict := true, slotNames := sn, subclasses := sub, abstract := ab, collection := col, hasDel := false } := by unfold clsIn; rw [xC] <;> rfl
  unfold ks_superIn
  rw [hcl, Option.bind_some]
  have e : ((Value.ref C :: Value.ref D :: veBm).dropWhile (· != .ref D)).drop 1 = veBm := by
    rw [List.dropWhile_cons, if_pos ne, List.dropWhile_cons, if_neg (by simp)]
    rfl
  show alongIn K "__init__" (((Value.ref C :: Value.ref D :: veBm).dropWhile (· != .ref D)).drop 1) = _
  rw [e]
  exact along_ve K
theorem err_mk {prog : Program} {K : Frag} {h : Heap} {mg : Str → Option Value} {nm : Str} (X : K.In h) (G : h.Ns mainGlobals mg) {C D fI cda cc N : Addr} {n q file : Str} {bs : List Value} {sn : List Str} {sub : List Value} {ab : Bool} {col : Option Bool} {dd od an cdd cld : Option Addr} {k0 k1 k2 k3 k5 : Option Value}
    {oc doc pm ct ccl cl : Value} {osl ccs csl : Array (Option Value)} {ln : Nat} {p1 p2 q1 q2 q3 q4 : Pos} {vs : Array Value} {tf : Tok}
    (aC : nsIn K mainGlobals nm = some (some (.ref C)))
    (xC : K.lookup C = some (excClassObj n q C N bs (.ref D :: veBm) true sn sub ab col dd k0 k1 k2 k3 k5 "ValueError.__new__")) (ne : (Value.ref C != Value.ref D) = true)
    (sa : findIn K (.ref C) "__setattr__" = some (some (.builtin "object.__setattr__"))) (ga : findIn K (.ref C) "__getattribute__" = some (some (.builtin "BaseException.__getattribute__"))) (gg : findIn K (.ref C) "__getattr__" = some none) (nv : findIn K (.ref C) "value" = some none)
    (iC : findIn K (.ref C) "__init__" = some (some (.ref fI))) (tC : typeIn K (.ref fI) = some (.type "function"))
    (l1 : K.lookup fI = some ⟨oc, od, .func (ksFn "__init__" "StrideError.__init__" (xA p1 p2) (xB ln q1 q2 q3 q4) xS .none .none doc pm an (.ref cda) ct cc), osl⟩) (c1 : codeIn K (.ref cda) "StrideError.__init__" = true)
    (lc : K.lookup cda = some ⟨ccl, cdd, .fields vs, ccs⟩) (hv : vs[2]? = some (.str file tf)) (hf : ((prog.main.file : Str) == file) = true) (lcc : K.lookup cc = some ⟨cl, cld, .cell (some (.ref D)), csl⟩) (hln : ln = 5 ∨ ln = 8)
    (kC : keepIn K (.ref C) = true) (eC : subIn K (.ref C) (.type "BaseException") = some true) (vC : subIn K (.ref C) (.type "ValueError") = some true) (yC : typeIn K (.ref C) = some (.type "type")) (hC : hasDictIn K C = true) (isC : isClsIn K C = true) (sC : subIn K (.ref C) (.ref C) = some true)
    (ny : nsIn K cStatics "thirdparty.any" = some none) (mD : mroIn K C (.ref D) = some true) (isD : isClsIn K D = true) (zs : nsIn K mainGlobals "super" = some none) (tp : (prog.main.scope.names.lookup ("super" : Str)).isSome = false) :
    ErrTxt prog K mg nm C D fI :=
  { gC := mg_of X G aC, cls := ⟨n, q, N, bs, .ref D :: veBm, sn, sub, ab, col, dd, k0, k1, k2, k3, k5, xC, rfl⟩, sa := sa, ga := ga, gg := gg, noN := nv, iC := iC, tC := tC, kC := kC, exC := eC, veC := vC, tyC := yC, hdC := hC, te := exm_of eC isC yC sC,
    sup := sup_of xC ne, any := ny, mroD := mD, clsD := by
      have z : (clsIn K D).isSome = true := isD
      exact Option.isSome_iff_exists.mp z,
    nsup := mg_none_of X G zs, top := tp,
    fn := ⟨oc, od, doc, pm, an, cda, cc, ct, osl, ln, p1, p2, q1, q2, q3, q4, ccl, cl, cdd, cld, vs, ccs, csl, file, tf, l1, c1, lc, hv, hf, lcc, hln⟩ }
end PXE

/-! PL15: tuple(x), list(x). -/
namespace PL
open PySem PySem.Spec PyProof.Rows L2
section
variable {X : Cx} {C : Fx} {W : WX} {e : Expr} {fe : Stt → Res PV} {pos : Pos}
/-- tuple(x), x a list of the state -/
def eTupM (i : Nat) : Stt → Res PV := fun s => match getM s i with
  | some (_, .lst l) => .ok (.tup l) s
  | _ => .stuck
theorem dv_tupM (i : Nat) {x : Str} {p p2 : Pos} (hc : X.calm = true) (hg : Gl X "tuple") (hm : X.mg "tuple" = none) (hN : X.N[i]? = some x := by rfl) (hvis : Vis X.env.scope x := by first | exact Or.inl rfl | exact Or.inr (Or.inl rfl) | exact Or.inr (Or.inr rfl)) (hd : (x == ("__debug__" : Str)) = false := by decide)
    (hcd : (x == ("__classdict__" : Str)) = false := by decide) (he : starEach [.Name x p] X.env = (false, eval (.Name x p) X.env) :: starEach [] X.env := by rfl) (hpl : (backTo pos (starEach [] X.env)).any (·.1) = false := by rfl) :
    DV X C W (.Call (.Name "tuple" p2) [.Name x p] [] pos) (eTupM i) := by
  refine ⟨_, pe_callTy call_tuple_of hg hm (by first | rfl | kernel_rfl | decide +kernel) (pa_cons (pe_var (i := i) hN hvis hd hcd) pa_nil he), fun F A H σ s Q o pp => ?_⟩
  unfold eTupM at pp
  cases e0 : getM s i with
  | none => rw [e0] at pp; exact pp.elim
  | some km =>
    obtain ⟨k, m⟩ := km
    rw [e0] at pp
    cases m with
    | lst l =>
      obtain ⟨g1, g2, ⟨_, xs, hx, hr⟩⟩ := mut_at o e0
      refine ⟨_, g2, _, xs, rfl, .inl ⟨SqL.of hx, fun q hq => ?_⟩⟩
      obtain ⟨o2, st2⟩ := o.alloc (o := .tup xs) hq
      exact pp _ _ _ _ o2 st2 (.tup (.of L2.upd_same) (hr.mono st2.s1))
    | _ => exact pp.elim
/-- tuple(e), e a list or a tuple -/
def eTupV (fe : Stt → Res PV) : Stt → Res PV := fun s => (fe s).bind fun p s1 => match p with
  | .lst l => .ok (.tup l) s1
  | .tup l => .ok (.tup l) s1
  | _ => .stuck
theorem dv_tupV {p2 : Pos} (hK : X.K = C.K) (he : DV X C W e fe) (hg : Gl X "tuple") (hm : X.mg "tuple" = none) (h1 : starEach [e] X.env = (false, eval e X.env) :: starEach [] X.env := by rfl) (hpl : (backTo pos (starEach [] X.env)).any (·.1) = false := by rfl) :
    DV X C W (.Call (.Name "tuple" p2) [e] [] pos) (eTupV fe) := by
  obtain ⟨te, pe, qe⟩ := he.pr
  refine ⟨_, pe_callTy call_tuple_of hg hm (by first | rfl | kernel_rfl | decide +kernel) (pa_cons pe pa_nil h1) (he := h1) (hpl := hpl), fun F A H σ s Q o pp => ?_⟩
  refine qe F A H σ s _ o (pp.seq fun q1 s1 v1 F1 A1 H1 _ o1 st1 r1 p1 => ?_)
  cases r1 with
  | @lst a xs l h2 h3 =>
    refine ⟨a, xs, rfl, .inl ⟨.of (o1.sub _ _ h2), fun q hq => ?_⟩⟩
    obtain ⟨o2, st2⟩ := o1.alloc (o := .tup xs) hq
    exact p1 _ _ _ _ o2 st2 (.tup (.of L2.upd_same) (h3.mono st2.s1))
  | @tup a xs l h2 h3 =>
    refine ⟨a, xs, rfl, .inr ⟨?_, ?_⟩⟩
    · rw [hK]; exact sqT_mono o1.sub h2
    · exact p1 _ _ _ _ o1 .refl (.tup h2 h3)
  | _ => exact p1.elim
/-- list(e), e a list or a tuple: a fresh list -/
def oListV (fe : Stt → Res PV) : Stt → Res MO := fun s => (fe s).bind fun p s1 => match p with
  | .lst l => .ok (.lst l) s1
  | .tup l => .ok (.lst l) s1
  | _ => .stuck
theorem do_listV {p2 : Pos} (hK : X.K = C.K) (he : DV X C W e fe) (hg : Gl X "list") (hm : X.mg "list" = none) (h1 : starEach [e] X.env = (false, eval e X.env) :: starEach [] X.env := by rfl) (hpl : (backTo pos (starEach [] X.env)).any (·.1) = false := by rfl) :
    DO X C W (.Call (.Name "list" p2) [e] [] pos) (oListV fe) := by
  obtain ⟨te, pe, qe⟩ := he.pr
  refine ⟨_, pe_callTy call_list_of hg hm (by first | rfl | kernel_rfl | decide +kernel) (pa_cons pe pa_nil h1) (he := h1) (hpl := hpl), fun F A H σ s Q o pp => ?_⟩
  refine qe F A H σ s _ o (PostO.seq pp fun q1 s1 v1 F1 A1 H1 _ o1 st1 r1 p1 => ?_)
  cases r1 with
  | @lst a xs l h2 h3 =>
    refine ⟨a, xs, rfl, .inl (.of (o1.sub _ _ h2)), fun q hq => ?_⟩
    obtain ⟨o4, st4, f4⟩ := o1.fresh (u := .lst xs) (m := .lst l) hq ⟨rfl, _, L2.upd_same, h3⟩
    exact p1 q _ _ _ o4 st4 f4
  | @tup a xs l h2 h3 =>
    refine ⟨a, xs, rfl, .inr (by rw [hK]; exact sqT_mono o1.sub h2), fun q hq => ?_⟩
    obtain ⟨o4, st4, f4⟩ := o1.fresh (u := .lst xs) (m := .lst l) hq ⟨rfl, _, L2.upd_same, h3⟩
    exact p1 q _ _ _ o4 st4 f4
  | _ => exact p1.elim
end
end PL

/-! PL16: a list of the state is given away (the name is not read again). -/
namespace PL
open PySem PySem.Spec PyProof.Rows L2
section
variable {X : Cx} {C : Fx} {W : WX} {pos : Pos}
def oMv (i : Nat) : Stt → Res MO := fun s => match s.ro[i]? with
  | some (some (.own m)) => .ok m ⟨s.ro.set i none, s.mu⟩
  | _ => .stuck
theorem OkF.mv {F H : Hp} {A : Nat → List Addr} {σ : L2.St} {s : Stt} {i : Nat} {m : MO} (o : OkF C F A H σ s) (e : s.ro[i]? = some (some (SV.own m))) :
    ∃ p, σ[i]? = some (some (.ref p)) ∧ OkF C F (dropA A i) H σ ⟨s.ro.set i none, s.mu⟩ ∧ Step C F A H F (dropA A i) H ∧ Fresh C F A H F (dropA A i) H p m := by
  obtain ⟨p, h1, h2⟩ := o.own i m e
  have sub : ∀ j b, b ∈ dropA A i j → b ∈ A j := fun j b hb => by
    unfold dropA at hb
    split at hb
    · cases hb
    · exact hb
  have get : ∀ (j : Nat) (x : SV), (s.ro.set i none)[j]? = some (some x) → j ≠ i ∧ s.ro[j]? = some (some x) := fun j x h => by
    by_cases hj : j = i
    · subst hj
      rw [List.getElem?_set_self (List.getElem?_eq_some_iff.mp e).1] at h
      cases h
    · rw [List.getElem?_set_ne (Ne.symm hj)] at h
      exact ⟨hj, h⟩
  have eqA : ∀ j, j ≠ i → dropA A i j = A j := fun j hj => by unfold dropA; rw [if_neg hj]
  refine ⟨p, h1, ⟨?_, o.sub, fun j v h => o.val j v (get j _ h).2, fun j m' h => ?_, o.nb, fun j k h => o.lent j k (get j _ h).2, o.bor, fun j b hb => o.free j b (sub j b hb), fun j k b hj hk => o.dis j k b (sub j b hj) (sub k b hk), fun k b hk hb => ⟨(o.freeB k b hk hb).1, fun j hj => (o.freeB k b hk hb).2 j (sub j b hj)⟩, o.disB⟩,
    ⟨fun _ _ h => h, fun _ h => .inl h, fun b ⟨j, hj⟩ => .inl ⟨j, sub j b hj⟩, fun b u h _ _ => h, fun b h => h⟩, A i, h2, fun b hb => ⟨(o.free i b hb).1, fun ⟨j, hj⟩ => ?_, fun ⟨k, hk, hkb⟩ => (o.freeB k b hk hkb).2 i hb, .inr ⟨i, hb⟩⟩⟩
  · rw [o.len]; exact (List.length_set).symm
  · obtain ⟨hj, h⟩ := get j _ h
    rw [eqA j hj]
    exact o.own j m' h
  · have := o.dis j i b (sub j b hj) hb
    subst this
    unfold dropA at hj
    rw [if_pos rfl] at hj
    cases hj
theorem do_mv (i : Nat) {x : Str} {p : Pos} (hN : X.N[i]? = some x := by rfl) (hvis : Vis X.env.scope x := by first | exact Or.inl rfl | exact Or.inr (Or.inl rfl) | exact Or.inr (Or.inr rfl)) (hd : (x == ("__debug__" : Str)) = false := by decide)
    (hcd : (x == ("__classdict__" : Str)) = false := by decide) : DO X C W (.Name x p) (oMv i) := by
  refine ⟨_, pe_var (i := i) hN hvis hd hcd, fun F A H σ s Q o pp => ?_⟩
  unfold oMv at pp
  split at pp
  · rename_i m e
    obtain ⟨q, h1, o2, st, fr⟩ := o.mv e
    exact ⟨_, h1, pp q _ _ _ o2 st fr⟩
  · exact pp.elim
end
end PL

/-! PL17: x.extend(e). -/
namespace PL
open PySem PySem.Spec PyProof.Rows L2
section
variable {X : Cx} {C : Fx} {W : WX} {e : Expr} {pos : Pos} {fe : Stt → Res PV}
def gExt (i : Nat) (fe : Stt → Res PV) : Stt → Fl := fun s => (getM s i).elim .stuck fun km => match km.2 with
  | .lst _ => (fe s).fl fun p s1 => match p, getM s1 i with
    | .lst z, some (k, .lst l) => if l.length + z.length ≤ 16777216 then .nx (setK s1 k (.lst (l ++ z))) else .stuck
    | _, _ => .stuck
  | _ => .stuck
theorem ds_ext (i : Nat) {x : Str} {p p2 p3 : Pos} (he : DV X C W e fe) (hN : X.N[i]? = some x := by rfl) (hvis : Vis X.env.scope x := by first | exact Or.inl rfl | exact Or.inr (Or.inl rfl) | exact Or.inr (Or.inr rfl)) (hd : (x == ("__debug__" : Str)) = false := by decide)
    (hcd : (x == ("__classdict__" : Str)) = false := by decide) (hs : swapsWith (.Call (.Attribute (.Name x p) "extend" p2) [e] [] p3) none pos.line X.env = pure false := by rfl)
    (hbase : attributeBase (.Name x p) "extend" X.env (eval (.Name x p) X.env) = eval (.Name x p) X.env := by rfl)
    (hfew : ((backTo p3 (starEach [e] X.env)).all (fun x => !x.1) && (backToKw p3 (keywordEach [] X.env)).all (fun x => x.1.isSome)
      && decide (([e] : List Expr).length + ([] : List Keyword).length + (if ([] : List Keyword).isEmpty then 0 else 1) < 30)) = true := by rfl)
    (hline : (p2.endLine == p3.line) = true := by rfl) (hst : starEach [e] X.env = (false, eval e X.env) :: starEach [] X.env := by rfl) (hplain : (backTo p3 (starEach [] X.env)).any (·.1) = false := by rfl) :
    DS X C W (.Expr (.Call (.Attribute (.Name x p) "extend" p2) [e] [] p3) pos) (gExt i fe) := by
  obtain ⟨te, pe, qe⟩ := he.pr
  refine ⟨_, ps_expr (pe_bm PySem.F.plainAttrs_list PySem.F.slot_list_extend PySem.F.type_list_extend mt_extend (pe_var (i := i) hN hvis hd hcd) (pa_cons pe pa_nil hst) hbase hfew hline hst hplain) hs, fun F A H σ s D o pp => ?_⟩
  cases e0 : getM s i with
  | none => unfold gExt at pp; rw [e0] at pp; exact pp.elim
  | some km =>
    obtain ⟨k0, m0⟩ := km
    unfold gExt at pp
    rw [e0] at pp
    simp only [Option.elim_some] at pp
    cases m0 with
    | lst l0 =>
      simp only at pp
      obtain ⟨_, g0, ⟨_, xs0, hx0, _⟩⟩ := mut_at o e0
      refine ⟨_, g0, .inl ⟨rfl, _, SqL.of hx0⟩, ?_⟩
      refine qe F A H σ s _ o (PostS.seq pp fun pv s1 xv F1 A1 H1 _ o1 st1 r1 p1 => ?_)
      cases r1 with
      | @lst a ys z h2 h3 =>
        cases e1 : getM s1 i with
        | none => simp only [e1] at p1; exact p1.elim
        | some km2 =>
          obtain ⟨k, m⟩ := km2
          simp only [e1] at p1
          cases m with
          | lst l =>
            simp only at p1
            split at p1
            · rename_i hl
              obtain ⟨g1, g2, g3⟩ := mut_at o1 e1
              obtain ⟨_, xs, hx, hr⟩ := g3
              rw [g0] at g2
              have ea : adr σ C k0 = adr σ C k := V.ref.inj (Option.some.inj (Option.some.inj g2))
              refine ⟨_, a, xs, ys, rfl, rfl, by rw [ea]; exact hx, o1.sub _ _ h2, by rw [hr.length, h3.length]; exact line_le hl, ?_⟩
              rw [ea]
              obtain ⟨o3, st3⟩ := o1.updL g1 (Rps.append hr h3)
              exact p1 _ _ _ _ o3 st3
            · exact p1.elim
          | _ => exact p1.elim
      | _ => exact p1.elim
    | _ => exact pp.elim
end
end PL

/-! PL18: isinstance(e, T), T a built-in type, e a plain value. -/
namespace PL
open PySem PySem.Spec PyProof.Rows L2
section
variable {X : Cx} {C : Fx} {W : WX} {e : Expr} {pos : Pos} {fe : Stt → Res PV}
def tyN : PV → Option String
  | .non => some "NoneType"
  | .bl _ => some "bool"
  | .int _ => some "int"
  | .str _ => some "str"
  | .lst _ => some "list"
  | .tup _ => some "tuple"
  | _ => none
def eIsi (T : String) (fe : Stt → Res PV) : Stt → Res PV := fun s => (fe s).bind fun p s1 => match tyN p with
  | some t => Res.opt s1 ((kitB t T).map PV.bl)
  | none => .stuck
theorem ty_of {F H : Hp} {v : V} {p : PV} {t : String} (sm : Same F H) (r : Rp C F v p) (h : tyN p = some t) : TyX C.K H v (.type t) := by
  cases r with
  | non => cases h; exact .base .non
  | bl b => cases h; exact .base (.bl b)
  | int i => cases h; exact .base (.int i)
  | str x => cases h; exact .base (.str x)
  | lst h1 h2 => cases h; exact .base (.lst (sm _ _ h1))
  | tup h1 h2 =>
    cases h
    rcases h1 with (h1 | ⟨o, h1⟩) | ⟨o, its, n, hk, hc, _⟩
    · exact .base (.tup (sm _ _ h1))
    · exact .fTuple (sm _ _ h1)
    · exact .kTuple hk hc
  | _ => cases h
theorem dv_isi (T : String) {x : Str} {p p2 : Pos} (hK : X.K = C.K) (he : DV X C W e fe) (hg : Gl X "isinstance") (hm : X.mg "isinstance" = none) (hgT : Gl X x) (hmT : X.mg x = none) (hvT : bootBuiltins x = some (.type T)) (hnT : x ≠ "__name__" := by decide) (hdT : (x == ("__debug__" : Str)) = false := by decide)
    (h1 : starEach [e, .Name x p2] X.env = (false, eval e X.env) :: starEach [.Name x p2] X.env := by rfl) (h2 : starEach [.Name x p2] X.env = (false, eval (.Name x p2) X.env) :: starEach [] X.env := by rfl) (hpl : (backTo pos (starEach [.Name x p2] X.env)).any (·.1) = false := by rfl) :
    DV X C W (.Call (.Name "isinstance" p) [e, .Name x p2] [] pos) (eIsi T fe) := by
  obtain ⟨te, pe, qe⟩ := he.pr
  refine ⟨_, pe_callB call_isi hg hm (by first | rfl | kernel_rfl | decide +kernel) (pa_cons pe (pa_cons (pe_bltn (v := .ty T) hgT hmT hvT rfl hnT hdT) pa_nil h2) h1) (he := h1) (hpl := hpl), fun F A H σ s Q o pp => ?_⟩
  refine qe F A H σ s _ o (pp.seq fun q1 s1 v1 F1 A1 H1 _ o1 st1 r1 p1 => ?_)
  cases e0 : tyN q1 with
  | none => simp only [e0] at p1; exact p1.elim
  | some t =>
    simp only [e0] at p1
    cases e1 : kitB t T with
    | none => rw [e1] at p1; exact p1.elim
    | some b =>
      rw [e1] at p1
      refine ⟨v1, .ty T, .type t, .type T, b, rfl, .ty T, ?_, kit_ty e1, Post.now o1 p1 (.bl b)⟩
      rw [hK]
      exact ty_of o1.sub r1 e0
end
end PL

/-! PL19: {"a": e, ..}[k]: a dict display with written texts for keys, read at once. -/
namespace PL
open PySem PySem.Spec PyProof.Rows L2
section
variable {X : Cx} {C : Fx} {W : WX} {e : Expr} {pos : Pos} {fe fk : Stt → Res PV} {fa : Stt → Res (List PV)}
def kvOf (ks : List Str) (vs : List V) : List (Key × V) := (ks.zip vs).map fun kv => (Sum.inr kv.1, kv.2)
def RKV (C : Fx) (ks : List Str) : Hp → Hp → List (V × V) → List PV → Prop := fun F _ ps l => ∃ vs, ps = (kvOf ks vs).map (fun kv => (kV kv.1, kv.2)) ∧ Rps C F vs l ∧ vs.length = ks.length
structure DPr (X : Cx) (C : Fx) (W : WX) (pos : Pos) (keys : List (Option Expr)) (values : List Expr) (ks : List Str) (fa : Stt → Res (List PV)) : Prop where
  pr : ∃ trs, PPs X pos keys values trs ∧ ∀ F A H σ s Q, OkF C F A H σ s → Post C W (RKV C ks) F A H σ (fa s) Q → tPairs trs σ H Q
theorem dpr_nil : DPr X C W pos [] [] [] aNil := ⟨_, pps_nil, fun F A H σ s Q o p => Post.now o p ⟨[], rfl, .nil, rfl⟩⟩
theorem dpr_cons {k : Str} {ke : Expr} {keys : List (Option Expr)} {values : List Expr} {ks : List Str} (hk : PE X ke (tC (.str k))) (he : DV X C W e fe) (hr : DPr X C W pos keys values ks fa) : DPr X C W pos (some ke :: keys) (e :: values) (k :: ks) (aCons fe fa) := by
  obtain ⟨te, pe, qe⟩ := he.pr
  obtain ⟨tr, pr, qr⟩ := hr.pr
  refine ⟨_, pps_cons hk pe pr, fun F A H σ s Q o p => ?_⟩
  refine qe F A H σ s _ o (p.seq fun q1 s1 v1 F1 A1 H1 _ o1 st1 r1 p1 => ?_)
  refine qr F1 A1 H1 σ s1 _ o1 (p1.seq fun q2 s2 ps F2 A2 H2 _ o2 st2 r2 p2 => ?_)
  obtain ⟨vs, e1, e2, e3⟩ := r2
  exact Post.now o2 p2 ⟨v1 :: vs, by rw [e1]; rfl, .cons (r1.mono st2.s1) e2, by rw [List.length_cons, List.length_cons, e3]⟩
def lookK (ks : List Str) (l : List PV) (x : Str) : Option PV := ((ks.zip l).find? fun kv => decide (kv.1 = x)).map (·.2)
def eDix (ks : List Str) (fa : Stt → Res (List PV)) (fk : Stt → Res PV) : Stt → Res PV := fun s => (fa s).bind fun l s1 => (fk s1).bind fun q s2 => match q with
  | .str x => Res.opt s2 (lookK ks l x)
  | _ => .stuck
theorem look_rel {F : Hp} {x : Str} : ∀ {ks : List Str} {vs : List V} {l : List PV} {p : PV}, Rps C F vs l → lookK ks l x = some p → ∃ v, valV (kvOf ks vs) (Sum.inr x) = some v ∧ Rp C F v p
  | [], _, _, p, _, h => by simp [lookK] at h
  | k :: ks, _, _, p, .nil, h => by simp [lookK] at h
  | k :: ks, v :: vs, q :: l, p, .cons r rs, h => by
    unfold lookK at h
    rw [List.zip_cons_cons, List.find?_cons] at h
    unfold valV kvOf
    rw [List.zip_cons_cons, List.map_cons, List.find?_cons]
    by_cases hk : k = x
    · subst hk
      simp only [decide_true, Option.map_some, Option.some.injEq] at h
      subst h
      exact ⟨v, by simp, r⟩
    · simp only [hk, decide_false] at h
      obtain ⟨u, h1, h2⟩ := look_rel (ks := ks) rs h
      refine ⟨u, ?_, h2⟩
      have hk2 : ¬ (Sum.inr k : Key) = Sum.inr x := fun z => hk (Sum.inr.inj z)
      simp only [hk2, decide_false]
      exact h1
theorem merge_new : ∀ (more acc : List (Key × V)), (acc.map (·.1) ++ more.map (·.1)).Nodup → mergeK acc more = acc ++ more
  | [], acc, _ => by simp [mergeK]
  | kv :: r, acc, h => by
    have h1 : putK acc kv.1 kv.2 = acc ++ [kv] := by
      unfold putK
      rw [if_neg]
      simp only [List.any_eq_true, decide_eq_true_eq, not_exists, not_and]
      intro z hz e
      rw [List.map_cons, List.nodup_append] at h
      exact h.2.2 z.1 (List.mem_map_of_mem hz) kv.1 List.mem_cons_self e
    show mergeK (putK acc kv.1 kv.2) r = _
    rw [h1, merge_new r (acc ++ [kv]) (by simpa using h)]
    simp
/-- an object that the state does not know is written anew -/
theorem OkF.updX {F H : Hp} {A : Nat → List Addr} {σ : L2.St} {s : Stt} {p : Addr} {u : HO} (o : OkF C F A H σ s) (hF : F p = none) (hA : ¬ OwnA A p) (hB : ¬ Bor C p) (hp : H p ≠ none) : OkF C F A (L2.upd H p u) σ s := by
  have keep : ∀ b x, b ≠ p → H b = some x → L2.upd H p u b = some x := fun b x hb e => by rw [L2.upd_ne hb]; exact e
  refine ⟨o.len, fun b x e => ?_, o.val, fun i m e => ?_, o.nb, o.lent, fun q m e => ?_, fun i b hb => ?_, o.dis, o.freeB, o.disB⟩
  · exact keep b x (fun z => by rw [z, hF] at e; cases e) (o.sub b x e)
  · obtain ⟨q, h1, h2⟩ := o.own i m e
    exact ⟨q, h1, h2.keep (fun _ _ h => h) fun b x hb hx => keep b x (fun z => hA ⟨i, z ▸ hb⟩) hx⟩
  · refine (o.bor q m e).keep (fun _ _ h => h) fun b x hb hx => keep b x (fun z => hB ⟨q, ?_, z ▸ hb⟩) hx
    rw [← o.nb]
    exact (List.getElem?_eq_some_iff.mp e).1
  · obtain ⟨h1, h2⟩ := o.free i b hb
    have hne : b ≠ p := fun z => hA ⟨i, z ▸ hb⟩
    exact ⟨h1, by rw [L2.upd_ne hne]; exact h2⟩
theorem dv_dix {keys : List (Option Expr)} {values : List Expr} {k : Expr} {ks : List Str} {p2 : Pos} (hu : X.A.units + 1 < cLine) (hd : DPr X C W p2 keys values ks fa) (hk : DV X C W k fk) (hs : NoSl k) (nd : ks.Nodup) (h15 : ks.length ≤ 15)
    (hall : keys.all (·.isSome) = true := by rfl) (hl : keys.length = values.length := by rfl) (h0 : keys ≠ [] := by simp) (h16 : keys.length ≤ 15 := by decide) :
    DV X C W (.Subscript (.Dict keys values p2) k pos) (eDix ks fa fk) := by
  obtain ⟨trs, pps, qp⟩ := hd.pr
  obtain ⟨tk, pk, qk⟩ := hk.pr
  refine ⟨_, pe_dget hu (pe_disp pps hall hl h0 h16) pk hs, fun F A H σ s Q o pp => ?_⟩
  intro p hp
  obtain ⟨o1, st1⟩ := o.laidX (u := .dK []) hp
  have hF : F p = none := o.sub.free hp
  have hA : ¬ OwnA A p := fun ⟨i, z⟩ => (o.free i p z).2 hp
  have hB : ¬ Bor C p := fun ⟨q, hq, z⟩ => by
    have hm : q < s.mu.length := by rw [o.nb]; exact hq
    exact (o.bor q s.mu[q] (List.getElem?_eq_getElem hm)).there p z hp
  refine qp F A _ σ s _ o1 ?_
  unfold eDix at pp
  cases hr : fa s with
  | stuck => rw [hr] at pp; exact pp
  | ex c v s2 => rw [hr] at pp; exact fun d F' A' H' o' st' x => pp d F' A' H' o' (st1.trans st') x
  | ok l s2 =>
    rw [hr] at pp
    simp only [Res.bind_ok] at pp
    intro ps F2 A2 H2 o2 st2 r2
    obtain ⟨vs, e1, e2, e3⟩ := r2
    have h2p : H2 p = some (.dK []) := st2.s4 p _ L2.upd_same hA hB
    have hA2 : ¬ OwnA A2 p := fun z => by
      rcases st2.s3 p z with z | z
      · exact hA z
      · rw [L2.upd_same] at z; cases z
    have hF2 : F2 p = none := by
      cases e : F2 p with
      | none => rfl
      | some u =>
        exfalso
        rcases st2.s2 p (by rw [e]; simp) with z | z | z
        · exact z hF
        · rw [L2.upd_same] at z; cases z
        · exact hA z
    have hlen : (kvOf ks vs).length = ks.length := by unfold kvOf; rw [List.length_map, List.length_zip, e3, Nat.min_self]
    refine ⟨h2p, kvOf ks vs, e1, by rw [hlen]; exact h15, ?_⟩
    have hkeys : (kvOf ks vs).map (·.1) = ks.map Sum.inr := by
      unfold kvOf
      rw [List.map_map]
      have z : (ks.zip vs).map Prod.fst = ks := List.map_fst_zip (by rw [e3]; exact Nat.le_refl _)
      have z2 : (fun x : Key × V => x.1) ∘ (fun kv : Str × V => ((Sum.inr kv.1 : Key), kv.2)) = (fun x : Str => (Sum.inr x : Key)) ∘ Prod.fst := rfl
      rw [z2, ← List.map_map, z]
    rw [merge_new (kvOf ks vs) [] (by
      rw [List.map_nil, List.nil_append, hkeys]
      exact List.pairwise_map.mpr (List.Pairwise.imp (fun h z => h (Sum.inr.inj z)) nd)), List.nil_append]
    have o3 := o2.updX (u := .dK (kvOf ks vs)) hF2 hA2 hB (by rw [h2p]; simp)
    have st12 := st1.trans st2
    have st3 : Step C F A H F2 A2 (L2.upd H2 p (.dK (kvOf ks vs))) := ⟨st12.s1, st12.s2, st12.s3, fun b u e n1 n2 => by
        rw [L2.upd_ne (fun z => by rw [z, hp] at e; cases e)]; exact st12.s4 b u e n1 n2, fun b hb => by
        by_cases z : b = p
        · rw [z, L2.upd_same]; simp
        · rw [L2.upd_ne z]; exact st12.s5 b hb⟩
    have p3 := Post.after st3 pp
    refine qk F2 A2 _ σ s2 _ o3 (p3.seq fun q s3 y F3 A3 H3 _ o4 st4 r4 p4 => ?_)
    cases r4 with
    | str x =>
      obtain ⟨z, ez, kz⟩ := Post.opt p4
      obtain ⟨v, h1, h2⟩ := look_rel e2 ez
      have h3p : H3 p = some (.dK (kvOf ks vs)) := st4.s4 p _ L2.upd_same hA2 hB
      refine ⟨p, v, rfl, ?_, kz _ _ _ _ o4 .refl (h2.mono st4.s1)⟩
      rw [← h1]
      exact DGet.k (k := Sum.inr x) h3p
    | _ => exact p4.elim
end
end PL

/-! PL20: the module's own numbers and texts. -/
namespace PL
open PySem PySem.Spec PyProof.Rows L2
section
variable {X : Cx} {C : Fx} {W : WX} {pos : Pos}
theorem dv_gint {x : Str} {n : Int} (hg : Gl X x) (h : ∃ u, X.mg x = some u ∧ RelV (.int n) u) (hd : (x == ("__debug__" : Str)) = false := by decide) : DV X C W (.Name x pos) (eC (.int n)) := by
  obtain ⟨u, h1, h2⟩ := h
  exact dv_const (pe_glob hg h1 h2 hd) fun _ => .int n
theorem dv_gstr {x y : Str} (hg : Gl X x) (h : ∃ u, X.mg x = some u ∧ RelV (.str y) u) (hd : (x == ("__debug__" : Str)) = false := by decide) : DV X C W (.Name x pos) (eC (.str y)) := by
  obtain ⟨u, h1, h2⟩ := h
  exact dv_const (pe_glob hg h1 h2 hd) fun _ => .str y
end
end PL

/-! PL21: e.f, e an instance of an own class (a plain value). -/
namespace PL
open PySem PySem.Spec PyProof.Rows L2
section
variable {X : Cx} {C : Fx} {W : WX} {e : Expr} {pos : Pos} {fe : Stt → Res PV}
def eFld (c f : Str) (fe : Stt → Res PV) : Stt → Res PV := fun s => (fe s).bind fun p s1 => match p with
  | .ins c' fs => if c' = c then Res.opt s1 (fs.lookup f) else .stuck
  | _ => .stuck
theorem rpf_look {F : Hp} {f : Str} : ∀ {fs : List (Str × V)} {l : List (Str × PV)} {p : PV}, Rpf C F fs l → l.lookup f = some p → ∃ v, fs.lookup f = some v ∧ Rp C F v p
  | _, _, _, .nil, h => by simp at h
  | (n, v) :: fs, (_, q) :: l, p, .cons r rs, h => by
    rw [List.lookup_cons] at h ⊢
    cases e : (f == n) with
    | true =>
      rw [e] at h
      cases h
      exact ⟨v, rfl, r⟩
    | false =>
      rw [e] at h
      exact rpf_look rs h
theorem dv_fld (c f : Str) (hK : X.K = C.K) (he : DV X C W e fe) (kc : Cls X.K (C.cl c)) (kn : NoAttr X.K (C.cl c) f) (hb : attributeBase e f X.env (eval e X.env) = eval e X.env := by rfl) : DV X C W (.Attribute e f pos) (eFld c f fe) := by
  obtain ⟨te, pe, qe⟩ := he.pr
  refine ⟨_, pe_fld pe hb, fun F A H σ s Q o pp => ?_⟩
  refine qe F A H σ s _ o (pp.seq fun q1 s1 v1 F1 A1 H1 _ o1 st1 r1 p1 => ?_)
  cases r1 with
  | @ins a c' dx fs l h1 h2 =>
    simp only at p1
    by_cases hc : c' = c
    · subst hc
      rw [if_pos rfl] at p1
      obtain ⟨z, ez, kz⟩ := Post.opt p1
      obtain ⟨v, h3, h4⟩ := rpf_look h2 ez
      exact ⟨a, _, dx, fs, v, rfl, o1.sub _ _ h1, kc, kn, h3, kz _ _ _ _ o1 .refl h4⟩
    · rw [if_neg hc] at p1; exact p1.elim
  | _ => exact p1.elim
end
end PL

/-! PL22: self.f = v, self.f, self an instance of the state. -/
namespace PL
open PySem PySem.Spec PyProof.Rows L2
section
variable {X : Cx} {C : Fx} {W : WX} {e : Expr} {pos : Pos} {fe : Stt → Res PV}
def putP (f : Str) (p : PV) : List (Str × PV) → List (Str × PV)
  | [] => [(f, p)]
  | (n, q) :: r => if n = f then (n, p) :: r else (n, q) :: putP f p r
theorem Rpf.put {F : Hp} {f : Str} {v : V} {p : PV} (r : Rp C F v p) : ∀ {fs : List (Str × V)} {l : List (Str × PV)}, Rpf C F fs l → Rpf C F (putF f v fs) (putP f p l)
  | _, _, .nil => .cons r .nil
  | (n, u) :: fs, (_, q) :: l, .cons h t => by
    unfold putF putP
    by_cases e : n = f
    · rw [if_pos e]
      rw [if_pos e]
      exact .cons r t
    · rw [if_neg e]
      rw [if_neg e]
      exact .cons h (Rpf.put r t)
theorem Rpf.len {F : Hp} : ∀ {fs : List (Str × V)} {l : List (Str × PV)}, Rpf C F fs l → fs.length = l.length
  | _, _, .nil => rfl
  | _, _, .cons _ t => by rw [List.length_cons, List.length_cons, Rpf.len t]
/-- an instance of the state gets new fields -/
theorem OkF.updI {F H : Hp} {A : Nat → List Addr} {σ : L2.St} {s : Stt} (o : OkF C F A H σ s) {k : MKey} {c : Str} {l l2 : List (Str × PV)} {fs2 : List (Str × V)} {dx : Addr} (hk : getK s k = some (.ins c l)) (r : Rpf C F fs2 l2) :
    OkF C F A (L2.upd H (adr σ C k) (.ins (C.cl c) dx fs2)) σ (setK s k (.ins c l2)) ∧ Step C F A H F A (L2.upd H (adr σ C k) (.ins (C.cl c) dx fs2)) := by
  obtain ⟨⟨hf, dx0, fs, hx, hr⟩, _⟩ := key_at o hk
  refine o.upd hk (fun b hb => L2.upd_ne (fun e => hb (by rw [hf, e]; exact List.mem_cons_self))) (fun b hb => ?_) ⟨hf, dx, fs2, L2.upd_same, r⟩
  rw [hf, List.mem_singleton] at hb
  subst hb
  rw [L2.upd_same]; simp
def gSetFld (i : Nat) (c f : Str) (fe : Stt → Res PV) : Stt → Fl := fun s => (fe s).fl fun p s1 => match getM s1 i with
  | some (k, .ins c' l) => if c' = c ∧ l.length < 1000 then .nx (setK s1 k (.ins c (putP f p l))) else .stuck
  | _ => .stuck
theorem ds_setFld (i : Nat) (c f : Str) {x : Str} {p p2 : Pos} {v : Expr} {fv : Stt → Res PV} (hv : DV X C W v fv) (kc : Cls X.K (C.cl c)) (kn : NoAttr X.K (C.cl c) f) (hN : X.N[i]? = some x := by rfl) (hvis : Vis X.env.scope x := by first | exact Or.inl rfl | exact Or.inr (Or.inl rfl) | exact Or.inr (Or.inr rfl)) (hd : (x == ("__debug__" : Str)) = false := by decide)
    (hcd : (x == ("__classdict__" : Str)) = false := by decide) (hs : swapsWith v (some (.Attribute (.Name x p) f p2)) pos.line X.env = pure false := by rfl) : DS X C W (.Assign [.Attribute (.Name x p) f p2] v pos) (gSetFld i c f fv) := by
  obtain ⟨tv, pv, qv⟩ := hv.pr
  refine ⟨_, ps_fld (pe_var (i := i) hN hvis hd hcd) pv hs, fun F A H σ s D o pp => ?_⟩
  refine qv F A H σ s _ o (PostS.seq pp fun q s1 xv F1 A1 H1 _ o1 st1 r1 p1 => ?_)
  cases e1 : getM s1 i with
  | none => simp only [e1] at p1; exact p1.elim
  | some km =>
    obtain ⟨k, m⟩ := km
    simp only [e1] at p1
    cases m with
    | ins c' l =>
      simp only at p1
      by_cases hc : c' = c ∧ l.length < 1000
      · rw [if_pos hc] at p1
        obtain ⟨rfl, hl⟩ := hc
        obtain ⟨g1, g2, g3⟩ := mut_at o1 e1
        obtain ⟨_, dx, fs, hx, hr⟩ := g3
        refine ⟨_, g2, _, _, dx, fs, rfl, hx, kc, kn, by rw [hr.len]; exact hl, ?_⟩
        obtain ⟨o3, st3⟩ := o1.updI (dx := dx) g1 (Rpf.put r1 hr)
        exact p1 _ _ _ _ o3 st3
      · rw [if_neg hc] at p1; exact p1.elim
    | _ => exact p1.elim
/-- self.f, self an instance of the state -/
def eFldM (i : Nat) (c f : Str) : Stt → Res PV := fun s => match getM s i with
  | some (_, .ins c' l) => if c' = c then Res.opt s (l.lookup f) else .stuck
  | _ => .stuck
theorem dv_fldM (i : Nat) (c f : Str) {x : Str} {p : Pos} (kc : Cls X.K (C.cl c)) (kn : NoAttr X.K (C.cl c) f) (hN : X.N[i]? = some x := by rfl) (hvis : Vis X.env.scope x := by first | exact Or.inl rfl | exact Or.inr (Or.inl rfl) | exact Or.inr (Or.inr rfl)) (hd : (x == ("__debug__" : Str)) = false := by decide)
    (hcd : (x == ("__classdict__" : Str)) = false := by decide) (hb : attributeBase (.Name x p) f X.env (eval (.Name x p) X.env) = eval (.Name x p) X.env := by rfl) : DV X C W (.Attribute (.Name x p) f pos) (eFldM i c f) := by
  refine ⟨_, pe_fld (pe_var (i := i) hN hvis hd hcd) hb, fun F A H σ s Q o pp => ?_⟩
  unfold eFldM at pp
  cases e1 : getM s i with
  | none => simp only [e1] at pp; exact pp.elim
  | some km =>
    obtain ⟨k, m⟩ := km
    simp only [e1] at pp
    cases m with
    | ins c' l =>
      simp only at pp
      by_cases hc : c' = c
      · subst hc
        rw [if_pos rfl] at pp
        obtain ⟨g1, g2, g3⟩ := mut_at o e1
        obtain ⟨_, dx, fs, hx, hr⟩ := g3
        obtain ⟨z, ez, kz⟩ := Post.opt pp
        obtain ⟨v, h3, h4⟩ := rpf_look hr ez
        exact ⟨_, g2, _, _, dx, fs, v, rfl, hx, kc, kn, h3, kz _ _ _ _ o .refl h4⟩
      · rw [if_neg hc] at pp; exact pp.elim
    | _ => exact pp.elim
end
end PL

/-! PL23: an instance is made: K(e, ..). -/
namespace PL
open PySem PySem.Spec PyProof.Rows L2
section
variable {X : Cx} {Cn : CXT} {k : Nat} {f Cc : Addr} {fd : FuncData} {ps : List Str} {sp : Sp} {dvs : List V} {ds : List Value} {E : L2.St → XK} {x : Str} {p pos : Pos} {e : Expr} {es : List Expr} {t : TA}
theorem run_mkG {pins : List (Addr × Obj)} {σ : L2.St} {H : Hp} {s : Shared} {Q : VK} {us : List Value} {vs : List V} (M : Mk X.K Cc f) (F : FnG X.prog X.w X.K X.mg X.base Cn k f fd ps sp) (room : Room (k + 1) X.A) (gu : X.A.guards = some [])
    (hb : Binds X.K fd ps ds) (hd : Vals dvs ds) (hx : PassesAt Cn X σ (E σ)) (I : Inv X pins σ H s) (rel : Vals vs us)
    (h : ∀ a dx, H a = none → H dx = none → dx ≠ a → sp (.ref a :: (vs ++ dvs)) (upd (upd H dx (.own a)) a (.ins Cc dx [])) (fun v H2 => v = .non ∧ Q (.ref a) H2) (E σ)) :
    wpAny (model X.prog X.w) X.A (call (.ref Cc) us) (EP X pins σ Q) X.xe s := by
  have q0 := h (s.heap.objs.size + 1) s.heap.objs.size (I.hok.fresh (Nat.le_succ _)) (I.hok.fresh (Nat.le_refl _)) (Nat.ne_of_lt (Nat.lt_succ_self _))
  have J := Inv.made (C := Cc) I
  have rel2 : Vals (V.ref (s.heap.objs.size + 1) :: (vs ++ dvs)) (Value.ref (s.heap.objs.size + 1) :: (us ++ ds)) := .cons rfl (rel.append hd)
  have n2 : (Value.ref (s.heap.objs.size + 1) :: us ++ ds).length = ps.length := by
    have z := rel2.length
    rw [F.gl _ _ _ _ q0] at z
    exact z.symm
  have gu2 : (X.A.under (.builtin "type.__call__" ⟨.ref Cc :: us, []⟩)).guards = some [] := by
    first | exact gu | (rw [← gu]; rfl)
  refine wpAny_call (make_map (f := f) I.kIn M.makes M.init (beq_iff_eq.mp M.fn) (codeAny_mono (F.go _ X.stack _ _ ⟨Value.ref (s.heap.objs.size + 1) :: us, []⟩ (Value.ref (s.heap.objs.size + 1) :: (us ++ ds)) _ _ (E σ) (room.make Cc us []) gu2
    (J.env0.make Cc us []) (hb _ (Value.ref (s.heap.objs.size + 1) :: us) J.kIn n2) rel2 q0) ?_))
  intro r s' z
  cases r with
  | error er => exact hx pins _ _ er s' J z
  | ok fl =>
    cases fl with
    | ret u =>
      obtain ⟨v, H', J3, rv, ev, q3⟩ := J.after z
      subst ev
      exact ⟨rv, ⟨V.ref (s.heap.objs.size + 1), H', J3, rfl, q3⟩⟩
    | next => exact False.elim z
    | brk => exact False.elim z
    | cont => exact False.elim z
def tMakeG (Cc : Addr) (sp : Sp) (dvs : List V) (E : L2.St → XK) (t : TA) : TE := fun σ H Q => t σ H fun vs H1 => ∀ a dx, H1 a = none → H1 dx = none → dx ≠ a →
  sp (.ref a :: (vs ++ dvs)) (upd (upd H1 dx (.own a)) a (.ins Cc dx [])) (fun v H2 => v = .non ∧ Q (.ref a) H2) (E σ)
theorem pe_mkG (M : Mk X.K Cc f) (F : FnG X.prog X.w X.K X.mg X.base Cn k f fd ps sp) (room : Room (k + 1) X.A) (gu : X.A.guards = some []) (hg : Gl X x) (hm : X.mg x = some (.ref Cc)) (hb : Binds X.K fd ps ds) (hd : Vals dvs ds) (hx : ∀ σ, PassesAt Cn X σ (E σ))
    (ha : PA X (e :: es) t) (hdb : (x == ("__debug__" : Str)) = false := by decide) (he : starEach (e :: es) X.env = (false, eval e X.env) :: starEach es X.env := by rfl) (hpl : (backTo pos (starEach es X.env)).any (·.1) = false := by rfl) :
    PE X (.Call (.Name x p) (e :: es) [] pos) (tMakeG Cc sp dvs E t) := by
  refine ⟨fun pins s σ H Q I h => ?_⟩
  refine wpAny_Call_Name_kw (ld_glob I hg hm ?_ hdb)
  refine PySem.W.callWith_K (h₀ := X.base) I.ok.mod.kin M.kp (thn (ha.run pos pins s σ H _ I h) fun us s1 ⟨vs, H1, I1, r, q⟩ => ⟨I1.kIn, ?_⟩) he hpl
  exact run_mkG M F room gu hb hd (hx σ) I1 r q
end
/-- a law's promise where its error classes lie as the written part says -/
abbrev spX (K : PySem.W.Frag) (m : List SV → List MO → FRes) : Sp := spOf K (PXE.clOf K) 1 m
end PL

/-! PL24: len(set(xs)), xs a list of ints; divmod. -/
namespace PL
open PySem PySem.Spec PyProof.Rows L2
/-- each number once, in the order in which it comes first -/
def onceI : List Int → List Int := fun ns => ns.foldl PyProof.Rows.step_dedup []
theorem once_met (ns : List Int) : PyProof.Rows.firstMet (fun i => ns.getD i 0) ns.length = onceI ns := by
  unfold PyProof.Rows.firstMet onceI
  congr 1
  apply List.ext_getElem?
  intro i
  rw [List.getElem?_map]
  by_cases h : i < ns.length
  · rw [List.getElem?_range h, List.getElem?_eq_getElem h]
    show some (ns.getD i 0) = _
    rw [List.getD_eq_getElem?_getD, List.getElem?_eq_getElem h]; rfl
  · rw [List.getElem?_eq_none (by simpa using h), List.getElem?_eq_none (by simpa using h)]; rfl
def tLenSetG (K : PySem.W.Frag) (ta : TE) : TE := fun σ H Q => ta σ H fun x H1 => ∃ (l : Addr) (ns : List Int), x = .ref l ∧ SqL K H1 l (ns.map V.int) ∧ ns.length ≤ 4000 ∧ Q (.int ((onceI ns).length : Nat)) H1
theorem pe_lenSetG {X : Cx} {a : Expr} {ta : TE} {p p2 q pos : Pos} (hg : Gl X "len") (hm : X.mg "len" = none) (hg2 : Gl X "set") (hm2 : X.mg "set" = none) (ha : PE X a ta) (hc : X.calm = true)
    (na : starEach [a] X.env = (false, eval a X.env) :: starEach [] X.env) : PE X (.Call (.Name "len" p) [.Call (.Name "set" p2) [a] [] q] [] pos) (tLenSetG X.K ta) := by
  refine ⟨fun pins s σ H Q I h => ?_⟩
  refine Call_ (ld_blt I hg hm boot_len ?_)
  refine PyProof.Rows.callWith_builtin1 (PyProof.Rows.args_cons ?_ rfl) rfl rfl
  refine Call_ (ld_blt I hg2 hm2 boot_set ?_)
  refine PyProof.Rows.callWith_type1 (PyProof.Rows.args_cons (thn (ha.run pins s σ H _ I h) fun v s1 ⟨x, H1, I1, r1, q1⟩ => PyProof.Rows.args_nil ?_) na) na rfl
  obtain ⟨l, ns, rfl, hq, hl, q1⟩ := q1
  cases r1
  obtain ⟨its, r, pl, hz⟩ := I1.list hq
  have hlen : its.toArray.size = ns.length := by rw [List.size_toArray, ← r.length, List.length_map]
  refine call_set_list (I1.ok.hd hc) pl.isList (by simpa using RZ.intsAre_vals r) (by rw [hlen]; unfold scanBound; omega) fun h' tk hS hk => ?_
  refine PyProof.Rows.args_nil ?_
  have hle := PyProof.Rows.firstMet_length_le (fun i => ns.getD i 0) ns.length
  rw [hlen] at hS
  rw [once_met] at hS hle
  obtain ⟨o, es, ep, t, ho, hex, hd, _, _, _, hf, hn⟩ := hS
  have I2 : Inv X pins σ H1 { s1 with heap := h', toks := tk } := I1.kept fun b o e => hk b o (Heap.lt_size e) e
  exact call_len_set ho hex hd hf (by rw [hn] <;> omega) ⟨.int (onceI ns).length, H1, I2.tok _, ⟨_, by rw [hn]⟩, q1⟩
section
variable {X : Cx} {C : Fx} {W : WX} {e : Expr} {pos : Pos} {fe : Stt → Res PV}
def pLenSet : PV → Option PV
  | .lst l => match allInt l with
    | some ns => if ns.length ≤ 4000 then some (.int ((onceI ns).length : Nat)) else none
    | none => none
  | _ => none
def eLenSet (fe : Stt → Res PV) : Stt → Res PV := fun s => (fe s).bind fun p s1 => Res.opt s1 (pLenSet p)
theorem dv_lenSet {p p2 q : Pos} (hK : X.K = C.K) (hc : X.calm = true) (he : DV X C W e fe) (hg : Gl X "len") (hm : X.mg "len" = none) (hg2 : Gl X "set") (hm2 : X.mg "set" = none) (na : starEach [e] X.env = (false, eval e X.env) :: starEach [] X.env := by rfl) :
    DV X C W (.Call (.Name "len" p) [.Call (.Name "set" p2) [e] [] q] [] pos) (eLenSet fe) := by
  obtain ⟨te, pe, qe⟩ := he.pr
  refine ⟨_, pe_lenSetG hg hm hg2 hm2 pe hc na, fun F A H σ s Q o pp => ?_⟩
  refine qe F A H σ s _ o (pp.seq fun q1 s1 v1 F1 A1 H1 _ o1 st1 r1 p1 => ?_)
  cases r1 with
  | @lst a xs l h2 h3 =>
    unfold pLenSet at p1
    simp only at p1
    cases h : allInt l with
    | none => rw [h] at p1; exact p1.elim
    | some ns =>
      rw [h] at p1
      simp only at p1
      split at p1
      · rename_i hl
        rw [allInt_eq h] at h3
        have := h3.ints
        subst this
        refine ⟨a, ns, rfl, .of (o1.sub _ _ h2), hl, ?_⟩
        exact p1 _ _ _ _ o1 .refl (.int _)
      · exact p1.elim
  | _ => exact p1.elim
/-- divmod(a, b), b above 0 -/
def okDm (i j : Int) : Bool := decide (0 < j) && !Builtin.divisionGoesByPylong i j
def pDivmod : List PV → Option PV
  | [.int i, .int j] => if okDm i j = true then some (.tup [.int (i / j), .int (i % j)]) else none
  | _ => none
theorem c_divmod : CallD C (fun xs H Q => ∃ i j, xs = [.int i, .int j] ∧ CDivP i j ∧ ∀ p, H p = none → Q (.ref p) (L2.upd H p (.tup [.int (i / j), .int (i % j)]))) pDivmod := by
  intro F A H σ s x p z Q o r e k
  unfold pDivmod at e
  split at e
  · rename_i i j
    split at e
    · rename_i h
      cases e
      cases r with
      | cons r1 r2 =>
        cases r1
        cases r2 with
        | cons r3 r4 =>
          cases r3
          cases r4
          unfold okDm at h
          rw [Bool.and_eq_true, decide_eq_true_eq, Bool.not_eq_true'] at h
          refine ⟨i, j, rfl, ⟨h.1, h.2⟩, fun q hq => ?_⟩
          obtain ⟨o2, st2⟩ := o.alloc (o := .tup [.int (i / j), .int (i % j)]) hq
          exact k _ _ A _ o2 st2 (.tup (.of L2.upd_same) (.cons (.int _) (.cons (.int _) .nil)))
    · cases e
  · cases e
end
end PL

/-! PL25: def f( *v ): what is passed is one tuple. -/
namespace PL
open PySem PySem.Spec PyProof.Rows L2
theorem PostF.after {C : Fx} {F F1 H H1 : Hp} {Q : VK} {E : XK} {r : FRes} (st : Step C F noA H F1 noA H1) (p : PostF C F H Q E r) : PostF C F1 H1 Q E r := by
  cases r with
  | ok v mu => exact fun u F' H' o t rr => p u F' H' o (st.trans t) rr
  | own m mu => exact fun q F' H' o t f => p q F' H' o (st.trans t) (f.after st)
  | ex c v mu => exact fun d F' H' o t x => p d F' H' o (st.trans t) x
  | stuck => exact p
structure FnQ (P : Program) (w : World) (K : PySem.W.Frag) (mg : Str → Option Value) (base : Heap) (Cn : CXT) (k : Nat) (f : Addr) (sp : Sp) : Prop where
  go : ∀ (A : Around) (outer : List Env) (s : Shared) (H : Hp) (us : List Value) (vs : List V) (Q : VK) (E : XK),
    Room k A → A.guards = some [] → Env0 P w K mg base A outer s H → Vals vs us → sp vs H Q E → codeAny (model P w) A (.call (.ref f) ⟨us, []⟩) (CR Cn outer P w H s Q E) s
def spStar (K : PySem.W.Frag) (cl : Str → Addr) (m : List SV → List MO → FRes) : Sp := fun vs H Q E => vs.length ≤ sizeLine ∧ ∃ C F ps mu, C.K = K ∧ C.cl = cl ∧ OkF C F noA H [] ⟨[], mu⟩ ∧ Rps C F vs ps ∧ PostF C F H Q E (m [.val (.tup ps)] mu)
section
variable {P : Program} {w : World} {K : PySem.W.Frag} {mg : Str → Option Value} {base : Heap} {cl : Str → Addr}
theorem fnq_star {x qual pv : Str} {st : Stmt} {f : Addr} {fd : FuncData} {N : List Str} {k n : Nat} {g : Stt → Fl} (F : Fun K x qual st f fd) (S : FnScope N [pv] (defScope st))
    (hb : ∀ rest : List Value, bindArgs fd ⟨rest, []⟩ = (newTuple rest >>= fun t => pure [(pv, t)])) (hn : N.length = n)
    (hbody : ∀ (cdv : Value) (A : Around) (outer : List Env) (s : Shared) (H : Hp) (E : XK) (C : Fx), C.K = K → C.cl = cl → Room k (A.deeper (envOfC qual (defScope st) s.heap.objs.size f cdv)) →
      Bd (cxOf (L2.CX P w) P w K mg base N qual (defScope st) f cdv A outer s H E) (fun c d _ H => E c d H) →
      DSs (cxOf (L2.CX P w) P w K mg base N qual (defScope st) f cdv A outer s H E) C (fun c d _ H => E c d H) (defBody st) g) : FnQ P w K mg base (L2.CX P w) (k + 1) f (spStar K cl (mOf n g)) := by
  subst hn
  obtain ⟨oc, od, kV, doc, pm, an, cdv, ct, osl, rfl, lk, cod⟩ := F.ex
  refine ⟨fun A outer s H us vs Q E room gu e0 rel hsp => ?_⟩
  obtain ⟨hz, C, F0, ps, mu, hK, hcl, o, r, pp⟩ := hsp
  have hn : H s.heap.objs.size = Option.none := e0.hok.fresh (Nat.le_refl _)
  have hl2 : us.length ≤ sizeLine := by rw [← rel.length]; exact hz
  refine StX.run_bnd lk cod S room e0 (G := fun xs H2 => ∃ p, H p = Option.none ∧ xs = [V.ref p] ∧ H2 = L2.upd H p (.tup vs)) (fun A' Ex Q' h => ?_) fun s2 H2 xs ⟨p, hp, ex, eH⟩ hr' => ?_
  · rw [hb us]
    refine wpAny_bind (wpAny_newTuple (wpAny_pure ?_) hl2)
    have new : ObjOk P w (L2.upd H s.heap.objs.size (.tup vs)) (s.heap.push ({ cls := .type "tuple", data := .seq us.toArray } : Obj)) s.heap.objs.size (.tup vs) := ⟨hz, us, rel, ⟨_, Heap.get?_push_size _ rfl, rfl, _, rfl⟩⟩
    have un := StX.un_laid (fs := frs outer) (s := s) (o := ({ cls := .type "tuple", data := .seq us.toArray } : Obj)) (u := .tup vs) hn
    exact h _ _ [V.ref s.heap.objs.size] [Value.ref s.heap.objs.size] (StX.env0_laid e0 new) un rfl (fun e s' => StX.cxUp outer s H _ _ E e s' un (fun b o q => Heap.get?_push_of_some _ q) rfl) (.cons rfl .nil) rfl ⟨_, hn, rfl, rfl⟩
  · subst ex eH
    have bd : Bd (cxOf (L2.CX P w) P w K mg base N qual (defScope st) f cdv A outer s2 (L2.upd H p (.tup vs)) E) (fun c d _ H => E c d H) := ⟨rfl, passes_of (K := fun e s'' => L2.CX P w outer (L2.upd H p (.tup vs)) s2 E e s'') rfl, takes_of rfl rfl rfl rfl, hr'.hd, gu⟩
    obtain ⟨t, h1, h2⟩ := (hbody cdv A outer s2 _ E C hK hcl hr' bd).pr
    obtain ⟨o2, st2⟩ := o.alloc (o := .tup vs) hp
    refine ⟨t, h1, h2 _ noA _ _ _ _ (okF_start (N := N) (vs := [V.ref p]) (ps := [.val (.tup ps)]) o2 (.val (.tup (.of L2.upd_same) (r.mono st2.s1)) .nil)) (postF_end (fun _ _ _ _ h => h) (pp.after st2))⟩
end
section
variable {X : Cx} {Cn : CXT} {C : Fx} {W : WX} {k : Nat} {f : Addr} {sp : Sp} {E : L2.St → XK} {x : Str} {p pos : Pos} {e : Expr} {es : List Expr} {t : TA} {m : List SV → List MO → FRes} {fa : Stt → Res (List PV)}
theorem run_fnq {pins : List (Addr × Obj)} {σ : L2.St} {H : Hp} {s : Shared} {Q : VK} {us : List Value} {vs : List V} (F : FnQ X.prog X.w X.K X.mg X.base Cn k f sp) (room : Room k X.A) (gu : X.A.guards = some [])
    (hx : PassesAt Cn X σ (E σ)) (I : Inv X pins σ H s) (rel : Vals vs us) (h : sp vs H Q (E σ)) :
    wpAny (model X.prog X.w) X.A (call (.ref f) us) (EP X pins σ Q) X.xe s := by
  refine wpAny_call (codeAny_mono (F.go X.A X.stack s H us vs Q (E σ) room gu I.env0 rel h) ?_)
  intro r s' z
  have q := cr_ep hx I z
  cases r with
  | error er => exact q
  | ok fl => cases fl <;> first | exact q | exact q.elim
def tCallQ (sp : Sp) (E : L2.St → XK) (t : TA) : TE := fun σ H Q => t σ H fun vs H1 => sp vs H1 Q (E σ)
theorem pe_callQ (F : FnQ X.prog X.w X.K X.mg X.base Cn k f sp) (room : Room k X.A) (gu : X.A.guards = some []) (hg : Gl X x) (hm : X.mg x = some (.ref f)) (hk : PySem.W.keepIn X.K (.ref f) = true)
    (hx : ∀ σ, PassesAt Cn X σ (E σ)) (ha : PA X (e :: es) t) (hdb : (x == ("__debug__" : Str)) = false)
    (he : starEach (e :: es) X.env = (false, eval e X.env) :: starEach es X.env) (hpl : (backTo pos (starEach es X.env)).any (·.1) = false) :
    PE X (.Call (.Name x p) (e :: es) [] pos) (tCallQ sp E t) := by
  refine ⟨?_⟩
  intro pins s σ H Q I h
  refine wpAny_Call_Name_kw (ld_glob I hg hm ?_ hdb)
  refine PySem.W.callWith_K (h₀ := X.base) I.ok.mod.kin hk (thn (ha.run pos pins s σ H _ I h) ?_) he hpl
  rintro us s1 ⟨vs, H1, I1, rel, q⟩
  exact ⟨I1.kIn, run_fnq F room gu (hx σ) I1 rel q⟩
def eCallQ (m : List SV → List MO → FRes) (fa : Stt → Res (List PV)) : Stt → Res PV := fun s => (fa s).bind fun l s1 => if l.length ≤ 16777216 then match m [.val (.tup l)] [] with
  | .ok v _ => .ok v s1
  | .own (.lst l) _ => .ok (.lst l) s1
  | .own _ _ => .stuck
  | .ex c v _ => .ex c v s1
  | .stuck => .stuck
  else .stuck
theorem Rps.cgq {C D : Fx} {F : Hp} (hk : D.K = C.K) (hc : D.cl = C.cl) {v : List V} {p : List PV} (h : Rps C F v p) : Rps D F v p := h.cg hk hc
theorem dv_callQ (F : FnQ X.prog X.w X.K X.mg X.base (L2.CX X.prog X.w) k f (spStar X.K C.cl m)) (hr : Room k X.A) (gu : X.A.guards = some []) (tk : Takes X W) (hK : X.K = C.K) (hm : X.mg x = some (.ref f)) (hk : PySem.W.keepIn X.K (.ref f) = true) (ha : DA X C W (e :: es) fa)
    (hg : Gl X x := by rfl) (hdb : (x == ("__debug__" : Str)) = false := by decide) (he : starEach (e :: es) X.env = (false, eval e X.env) :: starEach es X.env := by rfl) (hpl : (backTo pos (starEach es X.env)).any (·.1) = false := by rfl) :
    DV X C W (.Call (.Name x p) (e :: es) [] pos) (eCallQ m fa) := by
  obtain ⟨ta, pa, qa⟩ := ha.pr
  refine ⟨_, pe_callQ (E := fun σ c d H => W c d σ H) F hr gu hg hm hk (fun σ => passAt tk σ) pa hdb he hpl, fun F A H σ s Q o pp => ?_⟩
  show ta σ H fun vs H1 => spStar X.K C.cl m vs H1 Q (fun c d H => W c d σ H)
  refine qa F A H σ s _ o (pp.seq fun l s1 vs F1 A1 H1 _ o1 st1 r1 p1 => ?_)
  split at p1
  · rename_i hl
    obtain ⟨c1, c2, c3⟩ := call_core (avs := []) (vs := []) (ps := []) (ks := []) (ms := []) o1 rfl rfl rfl .nil
    refine ⟨by rw [r1.length]; exact line_le hl, subC σ A1 C [], F1, l, [], hK.symm, rfl, c1, r1.cg (by rfl) (by rfl), ?_⟩
    have mu0 : ∀ {F' H' : Hp} {mu : List MO}, OkF (subC σ A1 C []) F' noA H' [] ⟨[], mu⟩ → mu = [] := fun {F' H' mu} o => by
      have := o.nb
      exact List.eq_nil_of_length_eq_zero this
    cases e3 : m [.val (.tup l)] [] with
    | ok v ms' =>
      rw [e3] at p1
      intro u F' H' o' st' r'
      obtain ⟨o2, st2, _⟩ := c3 F' H' ms' o' st'
      have := mu0 o'
      subst this
      exact p1 u F' A1 H' o2 st2 (r'.cg (by rfl) (by rfl))
    | own mo ms' =>
      rw [e3] at p1
      cases mo with
      | lst l =>
        intro q F' H' o' st' f'
        obtain ⟨o2, st2, f2⟩ := c3 F' H' ms' o' st'
        obtain ⟨F2, o3, st3, r3⟩ := o2.freeze st2 (f2 q _ f')
        have := mu0 o'
        subst this
        exact p1 _ F2 A1 H' o3 st3 r3
      | _ => exact p1.elim
    | ex c v ms' =>
      rw [e3] at p1
      intro d F' H' o' st' x'
      obtain ⟨o2, st2, _⟩ := c3 F' H' ms' o' st'
      obtain ⟨u, h1, h2⟩ := x'
      have := mu0 o'
      subst this
      exact p1 d F' A1 H' o2 st2 ⟨u, h1, h2.cg (by rfl) (by rfl)⟩
    | stuck => rw [e3] at p1; exact p1.elim
  · exact p1.elim
end
end PL

/-! PL26: a list of the state is a plain value from now on. -/
namespace PL
open PySem PySem.Spec PyProof.Rows L2
section
variable {X : Cx} {C : Fx} {W : WX} {sts : List Stmt} {g : Stt → Fl}
def gFrz (i : Nat) : Stt → Fl := fun s => match s.ro[i]? with
  | some (some (.own (.lst l))) => .nx (setV i (.lst l) s)
  | _ => .stuck
theorem set_get {α : Type} {l : List α} {i : Nat} {x : α} (h : l[i]? = some x) : l.set i x = l := by
  obtain ⟨h1, h2⟩ := List.getElem?_eq_some_iff.mp h
  subst h2
  exact List.set_getElem_self h1
theorem OkF.frz {F H : Hp} {A : Nat → List Addr} {σ : L2.St} {s : Stt} {i : Nat} {l : List PV} (o : OkF C F A H σ s) (e : s.ro[i]? = some (some (SV.own (.lst l)))) :
    ∃ F' A', OkF C F' A' H σ (PL.setV i (PV.lst l) s) ∧ Step C F A H F' A' H := by
  obtain ⟨p, h1, o2, st2, fr⟩ := o.mv e
  obtain ⟨F2, o3, st3, r3⟩ := o2.freeze st2 fr
  obtain ⟨o4, st4⟩ := o3.setV (i := i) r3
  rw [set_get h1] at o4
  have es : PL.setV i (PV.lst l) ⟨s.ro.set i none, s.mu⟩ = PL.setV i (PV.lst l) s := by
    unfold PL.setV
    simp only [List.set_set]
  rw [es] at o4
  exact ⟨F2, _, o4, st3.trans st4⟩
theorem dss_frz (i : Nat) (h : DSs X C W sts g) : DSs X C W sts (gSeq (gFrz i) g) := by
  obtain ⟨ts, ps, qs⟩ := h.pr
  refine ⟨ts, ps, fun F A H σ s D o p => ?_⟩
  unfold gSeq gFrz at p
  cases e : s.ro[i]? with
  | none => simp only [e] at p; exact p.elim
  | some x =>
    cases x with
    | none => simp only [e] at p; exact p.elim
    | some y =>
      cases y with
      | own m =>
        cases m with
        | lst l =>
          simp only [e] at p
          obtain ⟨F', A', o2, st2⟩ := o.frz e
          exact qs F' A' H σ _ D o2 (p.after st2)
        | _ => simp only [e] at p; exact p.elim
      | _ => simp only [e] at p; exact p.elim
end
end PL

/-! PL27: ranges between numbers of any size. -/
namespace PL
open PySem PySem.Spec PyProof.Rows L2
theorem turn_long {P : Program} {w : World} {K : PySem.W.Frag} {tg : Expr} (it : Addr) (lo : Int) (n : Nat) : Turn P w K tg (Itr lo n) [it] it (fun i h => IsLongIter h it (lo + (i : Nat) * 1) ((n : Int) - (i : Nat)) 1) where
  mem := by simp
  obj := fun i h st b hb => by
    have e : b = it := by simpa using hb
    subst e
    exact ⟨_, st, fun v z => by
      have z' : Data.fields _ = Data.cell v := z
      cases z'⟩
  keep := fun i h h' st k => k it (by simp) _ st
  item := by
    intro X hP hw hK hc i pins s σ H E I hf st hg
    subst hP hw hK
    obtain ⟨f0, f1, f2, f3, f4, f5⟩ := hf it (by simp)
    have W := Walks.longrange (prog := X.prog) (w := X.w) (I.ok.hd hc) it lo 1 n
    refine W.item i s _ _ hg st fun v h' tk hv st' kk => ?_
    obtain ⟨t, rfl⟩ := hv
    have I1 : Inv X pins σ H { s with heap := h', toks := tk } := I.turned (fun b o hb e => kk b o (by simpa using hb) e) f0 f1 f3 f4 f5
    refine ⟨_, rfl, go_of (s := { s with heap := h', toks := tk }) (n := "longrange_iterator") st' rfl rfl (by decide) ⟨.int (lo + i), H, I1, ⟨t, ?_⟩, ⟨rfl, rfl⟩, st', fun b hb => (hf b hb).1⟩⟩
    rw [Int.mul_one]
  done := by
    intro X hP hw hK hc i pins s σ H E I hf st hg
    subst hP hw hK
    obtain ⟨f0, f1, f2, f3, f4, f5⟩ := hf it (by simp)
    exact wpAny_pyNext_long_end (I.ok.hd hc) st (by have : n ≤ i := hg; omega) fun h' eb => ⟨rfl, I.turned (t' := s.toks) (fun b o hb e => eb b o hb e) f0 f1 f3 f4 f5⟩
  self := fun _ _ _ _ _ st h => wpAny_pyIter_longiter st h
section
variable {X : Cx} {tg : Expr}
theorem range_itW {pins : List (Addr × Obj)} {σ : L2.St} {H : Hp} {s : Shared} {R : It → Hp → Prop} {E : Value → Shared → Prop} {lo hi : Int} {t u v : Tok} {tk : Nat} (I : Inv X pins σ H s)
    (q : R (Itr lo (hi - lo).toNat) H) : wpAny (model X.prog X.w) X.A (pyIter (.ref s.heap.objs.size)) (PIE X pins σ tg R) E { s with heap := s.heap.push { cls := .type "range", data := .fields #[.int lo t, .int hi u, .int 1 v] }, toks := tk } := by
  have I1 : Inv X pins σ H { s with heap := s.heap.push { cls := .type "range", data := .fields #[.int lo t, .int hi u, .int 1 v] }, toks := tk } := I.kept fun b o e => Heap.get?_push_of_some _ e
  have e1 : lo + ((0 : Nat) : Int) * 1 = lo := by simp
  have e2 : (((hi - lo).toNat : Nat) : Int) - ((0 : Nat) : Int) = Builtin.Range.rangeSize lo hi 1 := by rw [rangeSize_one]; split <;> omega
  by_cases hs : Builtin.Range.small lo hi 1 = true
  · refine wpAny_pyIter_range (IsRange.new ..) hs ?_
    refine ⟨(s.heap.push { cls := .type "range", data := .fields #[.int lo t, .int hi u, .int 1 v] }).objs.size, [(s.heap.push { cls := .type "range", data := .fields #[.int lo t, .int hi u, .int 1 v] }).objs.size], _, _, H, rfl,
      I1.kept (t' := tk) fun b o e => Heap.get?_push_of_some _ e, turn_range _ lo (hi - lo).toNat, ?_, fun b hb => ?_, q⟩
    · show IsRangeIter _ _ (lo + ((0 : Nat) : Int) * 1) ((((hi - lo).toNat : Nat) : Int) - ((0 : Nat) : Int)) 1
      rw [e1, e2]
      exact Heap.get?_push_size _ rfl
    · have e : b = (s.heap.push { cls := .type "range", data := .fields #[.int lo t, .int hi u, .int 1 v] }).objs.size := by simpa using hb
      subst e
      exact I1.fpOk (Nat.le_refl _) (I1.hok.fresh (Nat.le_refl _))
  · refine wpAny_pyIter_longrange (IsRange.new ..) (by simpa using hs) ?_
    refine ⟨(s.heap.push { cls := .type "range", data := .fields #[.int lo t, .int hi u, .int 1 v] }).objs.size, [(s.heap.push { cls := .type "range", data := .fields #[.int lo t, .int hi u, .int 1 v] }).objs.size], _, _, H, rfl,
      I1.kept (t' := tk) fun b o e => Heap.get?_push_of_some _ e, turn_long _ lo (hi - lo).toNat, ?_, fun b hb => ?_, q⟩
    · show IsLongIter _ _ (lo + ((0 : Nat) : Int) * 1) ((((hi - lo).toNat : Nat) : Int) - ((0 : Nat) : Int)) 1
      rw [e1, e2]
      exact Heap.get?_push_size _ rfl
    · have e : b = (s.heap.push { cls := .type "range", data := .fields #[.int lo t, .int hi u, .int 1 v] }).objs.size := by simpa using hb
      subst e
      exact I1.fpOk (Nat.le_refl _) (I1.hok.fresh (Nat.le_refl _))
def iRngW1 (ta : TA) : TI := fun σ H R => ta σ H fun vs H1 => ∃ j : Int, vs = [.int j] ∧ R (Itr 0 j.toNat) H1
def iRngW2 (ta : TA) : TI := fun σ H R => ta σ H fun vs H1 => ∃ i j : Int, vs = [.int i, .int j] ∧ R (Itr i (j - i).toNat) H1
theorem pi_rangeW1 {a : Expr} {ta : TA} {p pos : Pos} (hg : Gl X "range") (hm : X.mg "range" = none) (ha : PA X [a] ta) (hs : starEach [a] X.env = [(false, eval a X.env)] := by rfl) : PI X tg (.Call (.Name "range" p) [a] [] pos) (iRngW1 ta) := by
  refine ⟨fun pins s σ H R I h => ?_⟩
  refine Call_ (ld_blt I hg hm boot_range (PyProof.Rows.callWith_type1 (thn (ha.run pos pins s σ H _ I h) fun us s1 ⟨vs, H1, I1, r1, q1⟩ => ?_) hs rfl))
  obtain ⟨j, e, q⟩ := q1
  subst e
  cases r1 with
  | cons r rr =>
    cases rr
    obtain ⟨t, rfl⟩ := r
    exact call_range_1 (range_itW (lo := 0) (hi := j) (R := R) I1 (by simpa using q))
theorem pi_rangeW2 {a b : Expr} {ta : TA} {p pos : Pos} (hg : Gl X "range") (hm : X.mg "range" = none) (ha : PA X [a, b] ta) (hs : starEach [a, b] X.env = [(false, eval a X.env), (false, eval b X.env)] := by rfl) (hs2 : starEach [b] X.env = [(false, eval b X.env)] := by rfl) :
    PI X tg (.Call (.Name "range" p) [a, b] [] pos) (iRngW2 ta) := by
  refine ⟨fun pins s σ H R I h => ?_⟩
  refine Call_ (ld_blt I hg hm boot_range (PyProof.Rows.callWith_type1 (thn (ha.run pos pins s σ H _ I h) fun us s1 ⟨vs, H1, I1, r1, q1⟩ => ?_) (by rw [hs, hs2]) (by rw [hs2]; rfl)))
  obtain ⟨i, j, e, q⟩ := q1
  subst e
  cases r1 with
  | cons r rr =>
    cases rr with
    | cons r' rr =>
      cases rr
      obtain ⟨t, rfl⟩ := r
      obtain ⟨t', rfl⟩ := r'
      exact call_range_2 (range_itW I1 q)
end
section
variable {X : Cx} {C : Fx} {W : WX} {tg : Expr} {pos : Pos} {fa : Stt → Res (List PV)}
def iRangeW1 (fa : Stt → Res (List PV)) : Stt → Res (List PV) := fun s => (fa s).bind fun p s1 => match p with
  | [.int j] => .ok (rng 0 j.toNat) s1
  | _ => .stuck
def iRangeW2 (fa : Stt → Res (List PV)) : Stt → Res (List PV) := fun s => (fa s).bind fun p s1 => match p with
  | [.int i, .int j] => .ok (rng i (j - i).toNat) s1
  | _ => .stuck
theorem di_rangeW1 {a : Expr} {p : Pos} (hg : Gl X "range") (hm : X.mg "range" = none) (ha : DA X C W [a] fa) (hs : starEach [a] X.env = [(false, eval a X.env)] := by rfl) : DI X C W tg (.Call (.Name "range" p) [a] [] pos) (iRangeW1 fa) := by
  obtain ⟨te, pe, qe⟩ := ha.pr
  refine ⟨_, pi_rangeW1 hg hm pe hs, fun F A H σ s Q o p => ?_⟩
  refine qe F A H σ s _ o (p.seq fun a s1 v F1 A1 H1 _ o1 st1 r1 p1 => ?_)
  cases r1 with
  | nil => exact p1.elim
  | cons r r' =>
    cases r' with
    | cons _ _ => cases r <;> exact p1.elim
    | nil =>
      cases r with
      | int j =>
        simp only at p1
        refine ⟨j, rfl, Post.now o1 p1 ?_⟩
        refine ⟨_, _, ?_, fun _ _ => trivial, rng_ok 0 j.toNat⟩
        rw [rng_length]
        exact walk_range
      | _ => exact p1.elim
theorem di_rangeW2 {a b : Expr} {p : Pos} (hg : Gl X "range") (hm : X.mg "range" = none) (ha : DA X C W [a, b] fa) (hs : starEach [a, b] X.env = [(false, eval a X.env), (false, eval b X.env)] := by rfl) (hs2 : starEach [b] X.env = [(false, eval b X.env)] := by rfl) : DI X C W tg (.Call (.Name "range" p) [a, b] [] pos) (iRangeW2 fa) := by
  obtain ⟨te, pe, qe⟩ := ha.pr
  refine ⟨_, pi_rangeW2 hg hm pe hs hs2, fun F A H σ s Q o p => ?_⟩
  refine qe F A H σ s _ o (p.seq fun a s1 v F1 A1 H1 _ o1 st1 r1 p1 => ?_)
  cases r1 with
  | nil => exact p1.elim
  | cons r r' =>
    cases r' with
    | nil => cases r <;> exact p1.elim
    | cons r2 r3 =>
      cases r3 with
      | cons _ _ => cases r <;> cases r2 <;> exact p1.elim
      | nil =>
        cases r with
        | int i =>
          cases r2 with
          | int j =>
            simp only at p1
            refine ⟨i, j, rfl, Post.now o1 p1 ?_⟩
            refine ⟨_, _, ?_, fun _ _ => trivial, rng_ok i (j - i).toNat⟩
            rw [rng_length]
            exact walk_range
          | _ => exact p1.elim
        | _ => cases r2 <;> exact p1.elim
end
end PL

/-! PL28: tables of the module: D[k], D.get(k), k a key of D. -/
namespace PL
open PySem PySem.Spec PyProof.Rows L2
/-- a written value and what it stands for -/
inductive KvV (K : PySem.W.Frag) : Value → PV → Prop
  | int (i : Int) (t : Tok) : KvV K (.int i t) (.int i)
  | str (x : Str) (t : Tok) : KvV K (.str x t) (.str x)
  | nums {a : Addr} {o : Obj} {its : Array Value} {n : Nat} {ns : List Int} : K.lookup a = some o → o.cls = .type "tuple" → o.data = .seq its n → its.size ≤ sizeLine → Vals (ns.map V.int) its.toList → KvV K (.ref a) (.tup (ns.map PV.int))
theorem KvV.rp {K : PySem.W.Frag} {u : Value} {p : PV} (h : KvV K u p) : ∃ v, RelV v u ∧ ∀ (C : Fx) (F : Hp), C.K = K → Rp C F v p := by
  cases h with
  | int i t => exact ⟨.int i, ⟨t, rfl⟩, fun _ _ _ => .int i⟩
  | str x t => exact ⟨.str x, ⟨t, rfl⟩, fun _ _ _ => .str x⟩
  | @nums a o its n ns h1 h2 h3 h4 h5 => exact ⟨.ref a, rfl, fun C F e => .tup (.inr ⟨o, its, n, by rw [e]; exact h1, h2, h3, h4, h5⟩) (Rps.of_ints ns)⟩
structure DctT (w : World) (K : PySem.W.Frag) (mg : Str → Option Value) (x : Str) (tbl : List (Str × PV)) : Prop where
  ex : ∃ p es n, mg x = some (.ref p) ∧ KDict K w p es n ∧ ∀ k pv, tbl.lookup k = some pv → ∃ u, PySem.W.nsIn K p k = some (some u) ∧ KvV K u pv
section
variable {X : Cx} {C : Fx} {W : WX} {e : Expr} {pos : Pos} {fe : Stt → Res PV}
def eDct (tbl : List (Str × PV)) (fe : Stt → Res PV) : Stt → Res PV := fun s => (fe s).bind fun p s1 => match p with
  | .str k => Res.opt s1 (tbl.lookup k)
  | _ => .stuck
theorem dv_dct {tbl : List (Str × PV)} {x : Str} {p : Pos} (hK : X.K = C.K) (D : DctT X.w X.K X.mg x tbl) (he : DV X C W e fe) (hs : PlainIx e) (hg : Gl X x := by rfl) (hd : (x == ("__debug__" : Str)) = false := by decide) :
    DV X C W (.Subscript (.Name x p) e pos) (eDct tbl fe) := by
  obtain ⟨q, es, n, hm, hk, hv⟩ := D.ex
  obtain ⟨te, pe, qe⟩ := he.pr
  refine ⟨_, pe_ix ix_kdict (pe_glob (v := .ref q) hg hm rfl hd) pe hs, fun F A H σ s Q o pp => ?_⟩
  refine qe F A H σ s _ o (pp.seq fun q1 s1 v1 F1 A1 H1 _ o1 st1 r1 p1 => ?_)
  cases r1 with
  | str k =>
    obtain ⟨pv, h1, h2⟩ := Post.opt p1
    obtain ⟨u, h3, h4⟩ := hv k pv h1
    obtain ⟨v, h5, h6⟩ := h4.rp
    exact ⟨q, k, v, rfl, rfl, ⟨es, n, u, hk.at_, hk.lit, h3, h5⟩, h2 _ _ _ _ o1 .refl (h6 C F1 hK.symm)⟩
  | _ => exact p1.elim
def tKGet (K : PySem.W.Frag) (q : Addr) (ty : TE) : TE := fun σ H Q => ty σ H fun y H2 => ∃ (z : Str) (v : V) (u : Value), y = .str z ∧ PySem.W.nsIn K q z = some (some u) ∧ RelV v u ∧ Q v H2
theorem pe_kget {x : Str} {p apos cpos : Pos} {ty : TE} {q : Addr} {es : Array DictEntry} {n : Nat} (hk : KDict X.K X.w q es n) (hg : Gl X x) (hm : X.mg x = some (.ref q)) (hd : (x == ("__debug__" : Str)) = false) (he : PE X e ty) (m : M1 X (.Name x p) "get" apos e cpos) :
    PE X (.Call (.Attribute (.Name x p) "get" apos) [e] [] cpos) (tKGet X.K q ty) := by
  refine ⟨fun pins s σ H Q I h => ?_⟩
  refine wpAny_Call_method m.base m.few m.line PySem.F.plainAttrs_dict PySem.F.slot_dict_get PySem.F.type_dict_get (thn ((pe_glob (pos := p) (v := .ref q) hg hm rfl hd).run pins s σ H (fun v H1 => v = .ref q ∧ tKGet X.K q ty σ H1 Q) I ⟨rfl, h⟩) fun u s1 ⟨x0, H1, I1, rx, ex, q1⟩ => ?_)
  subst ex
  obtain rfl : u = Value.ref q := rx
  have hm0 := PySem.W.mapOf_K (prog := X.prog) (w := X.w) I1.kIn hk.at_ hk.lit
  refine ⟨hm0.typeIs, fun b z => ?_, ?_⟩
  · cases z
    exact ⟨_, I1.kIn _ _ hk.at_, rfl⟩
  · rw [m.trees]
    refine Calls.callWith_builtin rfl (Calls.evalArgs_plain (Calls.spliced_cons (thn (he.run pins s1 σ H1 _ I1 q1) fun iv s2 ⟨y, H2, I2, ry, z, v, u, ey, hn, ru, q2⟩ => Calls.spliced_nil ?_)))
    subst ey
    obtain ⟨t, rfl⟩ := ry
    have hm2 := PySem.W.mapOf_K (prog := X.prog) (w := X.w) I2.kIn hk.at_ hk.lit
    refine call_meetsIn PySem.F.slot_dict_get hm2.typeIs PySem.F.entry_dict_get (PySem.F.args_dict_get_2 _ _) (meets_dict_get (strKind X.prog X.w) q (strKind_is X.prog X.w z t) hk.low) ⟨_, hm2, ?_⟩
    rw [PySem.W.find_K hk.at_ hn]
    exact ⟨v, H2, I2.tok _, ru, q2⟩
theorem dv_dget {tbl : List (Str × PV)} {x : Str} {p apos cpos : Pos} (hK : X.K = C.K) (D : DctT X.w X.K X.mg x tbl) (he : DV X C W e fe) (m : M1 X (.Name x p) "get" apos e cpos) (hg : Gl X x := by rfl) (hd : (x == ("__debug__" : Str)) = false := by decide) :
    DV X C W (.Call (.Attribute (.Name x p) "get" apos) [e] [] cpos) (eDct tbl fe) := by
  obtain ⟨q, es, n, hm, hk, hv⟩ := D.ex
  obtain ⟨te, pe, qe⟩ := he.pr
  refine ⟨_, pe_kget hk hg hm hd pe m, fun F A H σ s Q o pp => ?_⟩
  refine qe F A H σ s _ o (pp.seq fun q1 s1 v1 F1 A1 H1 _ o1 st1 r1 p1 => ?_)
  cases r1 with
  | str k =>
    obtain ⟨pv, h1, h2⟩ := Post.opt p1
    obtain ⟨u, h3, h4⟩ := hv k pv h1
    obtain ⟨v, h5, h6⟩ := h4.rp
    exact ⟨k, v, u, rfl, h3, h5, h2 _ _ _ _ o1 .refl (h6 C F1 hK.symm)⟩
  | _ => exact p1.elim
end
end PL

/-! PL29: texts walked sign by sign; a sign in a text. -/
namespace PL
open PySem PySem.Spec PyProof.Rows L2
section
variable {X : Cx} {C : Fx} {W : WX} {e tg : Expr} {fe : Stt → Res PV}
def signs (z : Str) : List PV := z.cps.toList.map fun c => PV.str ⟨#[c]⟩
def iTxt (fe : Stt → Res PV) : Stt → Res (List PV) := fun s => (fe s).bind fun p s1 => match p with
  | .str z => .ok (signs z) s1
  | _ => .stuck
theorem di_txt (he : DV X C W e fe) : DI X C W tg e (iTxt fe) := by
  obtain ⟨te, pe, qe⟩ := he.pr
  refine ⟨_, pi_str pe, fun F A H σ s Q o p => ?_⟩
  refine qe F A H σ s _ o (p.seq fun a s1 v F1 A1 H1 _ o1 st1 r1 p1 => ?_)
  cases r1 with
  | str z =>
    simp only at p1
    refine ⟨z, rfl, Post.now o1 p1 ?_⟩
    have hl : (signs z).length = z.cps.size := by unfold signs; simp
    refine ⟨_, _, by rw [hl]; exact walk_str, fun _ _ => trivial, ?_⟩
    rintro i F2 A2 H2 σ2 s2 x H3 p o2 sm ⟨rfl, c, hc, rfl⟩ hp
    refine ⟨F2, o2, .refl, ?_⟩
    unfold signs at hp
    rw [List.getElem?_map] at hp
    rw [Array.getElem?_toList, hc] at hp
    cases hp
    exact .str _
  | _ => exact p1.elim
def pInSg : PV → PV → Option PV
  | .str z, .str y => match z.cps.toList with
    | [c] => some (.bl (decide (c ∈ y.cps.toList)))
    | _ => none
  | _, _ => none
def pNotInSg : PV → PV → Option PV
  | .str z, .str y => match z.cps.toList with
    | [c] => some (.bl (!decide (c ∈ y.cps.toList)))
    | _ => none
  | _, _ => none
theorem one_sign {z : Str} {c : Nat} (h : z.cps.toList = [c]) : z = ⟨#[c]⟩ := by
  cases z with
  | mk a =>
    cases a with
    | mk l =>
      have h' : l = [c] := h
      subst h'
      rfl
theorem d_inSg : OpD C (fun x y H Q => ∃ (c : Nat) (z : Str), x = .str ⟨#[c]⟩ ∧ y = .str z ∧ Q (.bl (decide (c ∈ z.cps.toList))) H) pInSg := by
  intro F A H σ s x y p q z Q o r1 r2 e k
  unfold pInSg at e
  split at e
  · rename_i z' y'
    cases r1; cases r2
    split at e
    · rename_i c hc
      cases e
      exact ⟨c, y', by rw [one_sign hc], rfl, k _ F A H o .refl (.bl _)⟩
    · cases e
  · cases e
theorem d_notInSg : OpD C (fun x y H Q => ∃ (c : Nat) (z : Str), x = .str ⟨#[c]⟩ ∧ y = .str z ∧ Q (.bl (!decide (c ∈ z.cps.toList))) H) pNotInSg := by
  intro F A H σ s x y p q z Q o r1 r2 e k
  unfold pNotInSg at e
  split at e
  · rename_i z' y'
    cases r1; cases r2
    split at e
    · rename_i c hc
      cases e
      exact ⟨c, y', by rw [one_sign hc], rfl, k _ F A H o .refl (.bl _)⟩
    · cases e
  · cases e
end
end PL

/-! PL30: K(e, ..): an instance made, a plain value from then on. -/
namespace PL
open PySem PySem.Spec PyProof.Rows L2
/-- a fresh instance is a plain value from now on -/
theorem OkF.freezeI {C : Fx} {F F' H H' : Hp} {A A' : Nat → List Addr} {σ : L2.St} {s : Stt} {p : Addr} {c : Str} {l : List (Str × PV)} (o : OkF C F' A' H' σ s) (st : Step C F A H F' A' H') (f : Fresh C F A H F' A' H' p (.ins c l)) :
    ∃ F2, OkF C F2 A' H' σ s ∧ Step C F A H F2 A' H' ∧ Rp C F2 (.ref p) (.ins c l) := by
  obtain ⟨fp, ⟨rfl, dx, xs, hx, hr⟩, hf⟩ := f
  obtain ⟨k1, k2, k3, k4⟩ := hf p List.mem_cons_self
  have sF : Same F' (L2.upd F' p (.ins (C.cl c) dx xs)) := fun b u e => by rw [L2.upd_ne (ne_of_none e k1)]; exact e
  refine ⟨L2.upd F' p (.ins (C.cl c) dx xs), ⟨o.len, fun b u e => ?_, fun i v e => ?_, fun i m e => ?_, o.nb, o.lent, fun q m e => ?_, fun i b hb => ?_, o.dis, fun q b hq hb => ?_, o.disB⟩, ⟨st.s1.trans sF, fun b hb => ?_, st.s3, st.s4, st.s5⟩, .ins L2.upd_same (hr.mono sF)⟩
  · by_cases hb : b = p
    · subst hb; rw [L2.upd_same] at e; cases e; exact hx
    · rw [L2.upd_ne hb] at e; exact o.sub b u e
  · obtain ⟨u, h1, h2⟩ := o.val i v e
    exact ⟨u, h1, h2.mono sF⟩
  · obtain ⟨q, h1, h2⟩ := o.own i m e
    exact ⟨q, h1, h2.keep sF fun b x _ h => h⟩
  · exact (o.bor q m e).keep sF fun b x _ h => h
  · obtain ⟨h1, h2⟩ := o.free i b hb
    have hne : b ≠ p := fun z => k2 ⟨i, z ▸ hb⟩
    exact ⟨by rw [L2.upd_ne hne]; exact h1, h2⟩
  · obtain ⟨h1, h2⟩ := o.freeB q b hq hb
    have hne : b ≠ p := fun z => k3 ⟨q, hq, z ▸ hb⟩
    exact ⟨by rw [L2.upd_ne hne]; exact h1, h2⟩
  · by_cases hbp : b = p
    · subst hbp
      rcases k4 with z | z
      · exact .inr (.inl z)
      · exact .inr (.inr z)
    · rw [L2.upd_ne hbp] at hb; exact st.s2 b hb
def mkC (C : Fx) (a : Addr) : Fx := ⟨C.K, C.cl, 1, fun _ => a, fun _ => [a]⟩
section
variable {C : Fx} {F H : Hp} {A : Nat → List Addr} {σ : L2.St} {s : Stt} {a dx : Addr} {c : Str}
theorem make_in (o : OkF C F A H σ s) (ha : H a = none) (hd : H dx = none) (hne : dx ≠ a) :
    OkF (mkC C a) F noA (L2.upd (L2.upd H dx (.own a)) a (.ins (C.cl c) dx [])) [] ⟨[], [.ins c []]⟩ := by
  refine ⟨rfl, fun b u e => ?_, fun i v e => by simp at e, fun i m e => by simp at e, rfl, fun i k e => by simp at e, fun k m e => ?_, fun i b h => absurd h (by simp [noA]), fun i j b h _ => absurd h (by simp [noA]), fun k b hk hb => ?_, fun k j b hk hj _ _ => ?_⟩
  · have hb := o.sub b u e
    have n1 : b ≠ a := fun z => by rw [z, ha] at hb; cases hb
    have n2 : b ≠ dx := fun z => by rw [z, hd] at hb; cases hb
    rw [L2.upd_ne n1, L2.upd_ne n2]
    exact hb
  · cases k with
    | zero =>
      have em : MO.ins c [] = m := by simpa using e
      subst em
      exact ⟨rfl, dx, [], L2.upd_same, .nil⟩
    | succ k => simp at e
  · have hb' : b ∈ [a] := hb
    rw [List.mem_singleton] at hb'
    subst hb'
    exact ⟨o.sub.free ha, fun i => by simp [noA]⟩
  · have h1 : k < 1 := hk
    have h2 : j < 1 := hj
    omega
theorem make_out (o : OkF C F A H σ s) (ha : H a = none) (hd : H dx = none) (hne : dx ≠ a) {F' H' : Hp} {ms : List MO} (o' : OkF (mkC C a) F' noA H' [] ⟨[], ms⟩)
    (st : Step (mkC C a) F noA (L2.upd (L2.upd H dx (.own a)) a (.ins (C.cl c) dx [])) F' noA H') : OkF C F' A H' σ s ∧ Step C F A H F' A H' := by
  have in1 : ∀ b x, H b = some x → L2.upd (L2.upd H dx (.own a)) a (.ins (C.cl c) dx []) b = some x := fun b x hb => by
    have n1 : b ≠ a := fun z => by rw [z, ha] at hb; cases hb
    have n2 : b ≠ dx := fun z => by rw [z, hd] at hb; cases hb
    rw [L2.upd_ne n1, L2.upd_ne n2]
    exact hb
  have keep : ∀ b x, H b = some x → H' b = some x := fun b x hb => by
    refine st.s4 b x (in1 b x hb) (fun ⟨i, z⟩ => absurd z (by simp [noA])) ?_
    rintro ⟨k, _, hk⟩
    have hb' : b ∈ [a] := hk
    rw [List.mem_singleton] at hb'
    rw [hb', ha] at hb
    cases hb
  have there : ∀ b, H b ≠ none → H' b ≠ none := fun b hb => by
    cases e : H b with
    | none => exact absurd e hb
    | some x => rw [keep b x e]; simp
  have plain : ∀ b, F b = none → H b ≠ none → F' b = none := fun b h1 h2 => by
    cases e : F' b with
    | none => rfl
    | some x =>
      exfalso
      rcases st.s2 b (by rw [e]; simp) with z | z | ⟨i, z⟩
      · exact z h1
      · cases e2 : H b with
        | none => exact h2 e2
        | some y => rw [in1 b y e2] at z; cases z
      · exact absurd z (by simp [noA])
  refine ⟨⟨o.len, o'.sub, fun i v e => ?_, fun i m e => ?_, o.nb, o.lent, fun k m e => (o.bor k m e).keep st.s1 fun b x _ => keep b x, fun i b hb => ?_, o.dis, fun k b hk hb => ?_, o.disB⟩, ⟨st.s1, fun b hb => ?_, fun b hb => .inl hb, fun b x hx _ _ => keep b x hx, there⟩⟩
  · obtain ⟨u, h1, h2⟩ := o.val i v e
    exact ⟨u, h1, h2.mono st.s1⟩
  · obtain ⟨p, h1, h2⟩ := o.own i m e
    exact ⟨p, h1, h2.keep st.s1 fun b x _ => keep b x⟩
  · obtain ⟨h1, h2⟩ := o.free i b hb
    exact ⟨plain b h1 h2, there b h2⟩
  · have hm : k < s.mu.length := by rw [o.nb]; exact hk
    have ht := (o.bor k s.mu[k] (List.getElem?_eq_getElem hm)).there b hb
    exact ⟨plain b (o.freeB k b hk hb).1 ht, (o.freeB k b hk hb).2⟩
  · rcases st.s2 b hb with z | z | ⟨i, z⟩
    · exact .inl z
    · refine .inr (.inl ?_)
      cases e : H b with
      | none => rfl
      | some x => rw [in1 b x e] at z; cases z
    · exact absurd z (by simp [noA])
theorem make_frz (o : OkF C F A H σ s) (ha : H a = none) (hd : H dx = none) (hne : dx ≠ a) {F' H' : Hp} {fs : List (Str × PV)} (o' : OkF (mkC C a) F' noA H' [] ⟨[], [.ins c fs]⟩)
    (st : Step (mkC C a) F noA (L2.upd (L2.upd H dx (.own a)) a (.ins (C.cl c) dx [])) F' noA H') : ∃ F2, OkF C F2 A H' σ s ∧ Step C F A H F2 A H' ∧ Rp C F2 (.ref a) (.ins c fs) := by
  obtain ⟨o2, st2⟩ := make_out o ha hd hne o' st
  have hb : MAt (mkC C a) F' H' a [a] (.ins c fs) := o'.bor 0 (.ins c fs) rfl
  refine o2.freezeI st2 ⟨[a], hb.cg (by rfl) (by rfl), fun b hb2 => ?_⟩
  rw [List.mem_singleton] at hb2
  subst hb2
  refine ⟨(o'.freeB 0 b (by show 0 < 1; omega) (by show b ∈ [b]; simp)).1, fun ⟨i, z⟩ => (o.free i b z).2 ha, fun ⟨k, hk, z⟩ => ?_, .inl ha⟩
  have hm : k < s.mu.length := by rw [o.nb]; exact hk
  exact (o.bor k s.mu[k] (List.getElem?_eq_getElem hm)).there b z ha
end
theorem RpA.vals {C : Fx} {F : Hp} {vs : List V} {l : List PV} (h : Rps C F vs l) : RpA C F vs (l.map SV.val) := by
  induction l generalizing vs with
  | nil => cases h; exact .nil
  | cons p r ih =>
    cases h with
    | cons h1 h2 => exact .val h1 (ih h2)
section
variable {X : Cx} {C : Fx} {W : WX} {k n : Nat} {f : Addr} {fd : FuncData} {ps : List Str} {dvs : List V} {ds : List Value} {dps : List PV} {x c : Str} {p pos : Pos} {e : Expr} {es : List Expr} {m : List SV → List MO → FRes} {fa : Stt → Res (List PV)}
def eMake (c : Str) (m : List SV → List MO → FRes) (n : Nat) (dps : List PV) (fa : Stt → Res (List PV)) : Stt → Res PV := fun s => (fa s).bind fun l s1 => if l.length + dps.length + 1 = n then match m (.bor 0 :: (l ++ dps).map .val) [.ins c []] with
  | .ok .non [.ins c' fs] => if c' = c then .ok (.ins c fs) s1 else .stuck
  | .ex c v _ => .ex c v s1
  | _ => .stuck
  else .stuck
theorem dv_make (M : Mk X.K (C.cl c) f) (Fn : FnP X.prog X.w X.K X.mg X.base C.cl k f fd ps m) (hr : Room (k + 1) X.A) (gu : X.A.guards = some []) (tk : Takes X W) (hK : X.K = C.K) (hm : X.mg x = some (.ref (C.cl c))) (hb : Binds X.K fd ps ds) (hd : Vals dvs ds)
    (hdp : ∀ (D : Fx) (F : Hp), D.K = X.K → Rps D F dvs dps) (ha : DA X C W (e :: es) fa)
    (hg : Gl X x := by rfl) (hdb : (x == ("__debug__" : Str)) = false := by decide) (he : starEach (e :: es) X.env = (false, eval e X.env) :: starEach es X.env := by rfl) (hpl : (backTo pos (starEach es X.env)).any (·.1) = false := by rfl) (hnn : ps.length = n := by rfl) :
    DV X C W (.Call (.Name x p) (e :: es) [] pos) (eMake c m n dps fa) := by
  subst hnn
  obtain ⟨ta, pa, qa⟩ := ha.pr
  refine ⟨_, pe_mkG (E := fun σ c d H => W c d σ H) M Fn hr gu hg hm hb hd (fun σ => passAt tk σ) pa hdb he hpl, fun F A H σ s Q o pp => ?_⟩
  refine qa F A H σ s _ o (pp.seq fun l s1 vs F1 A1 H1 _ o1 st1 r1 p1 => ?_)
  intro a dx na nd hne
  split at p1
  · rename_i hl
    have rr : Rps (mkC C a) F1 (vs ++ dvs) (l ++ dps) := Rps.append (r1.cg (by rfl) (by rfl)) (hdp (mkC C a) F1 hK.symm)
    have hlen : (V.ref a :: (vs ++ dvs)).length = ps.length := by
      rw [List.length_cons, rr.length, List.length_append]
      exact hl
    refine ⟨hlen, mkC C a, F1, .bor 0 :: (l ++ dps).map .val, [.ins c []], hK.symm, rfl, make_in o1 na nd hne, .bor (k := 0) (C := mkC C a) (by show 0 < 1; omega) (RpA.vals rr), ?_⟩
    cases e3 : m (.bor 0 :: (l ++ dps).map .val) [.ins c []] with
    | ok v ms' =>
      rw [e3] at p1
      intro u F' H' o' st' r'
      cases v with
      | non =>
        match ms', o', p1 with
        | [.ins c' fs], o', p1 =>
          simp only at p1
          by_cases hc : c' = c
          · subst hc
            rw [if_pos rfl] at p1
            cases r'
            obtain ⟨F2, o2, st2, r2⟩ := make_frz o1 na nd hne o' st'
            exact ⟨rfl, p1 _ F2 A1 H' o2 st2 r2⟩
          · rw [if_neg hc] at p1; exact p1.elim
        | [], _, p1 => exact p1.elim
        | [.lst _], _, p1 => exact p1.elim
        | [.dct _], _, p1 => exact p1.elim
        | [.bag _ _ _ _], _, p1 => exact p1.elim
        | m1 :: _ :: _, _, p1 => cases m1 <;> exact p1.elim
      | _ => exact p1.elim
    | own mo ms' => rw [e3] at p1; exact p1.elim
    | ex c2 v ms' =>
      rw [e3] at p1
      intro d F' H' o' st' x'
      obtain ⟨o2, st2⟩ := make_out o1 na nd hne o' st'
      obtain ⟨u, h1, h2⟩ := x'
      exact p1 d F' A1 H' o2 st2 ⟨u, h1, h2.cg (by rfl) (by rfl)⟩
    | stuck => rw [e3] at p1; exact p1.elim
  · exact p1.elim
end
end PL

/-! PL31: defs of classes, defs with defaults; tables from their facts. -/
namespace PL
open PySem PySem.Spec PyProof.Rows L2
def clsAt (s : Stmt) (j : Nat) : Stmt := match s with
  | .ClassDef _ _ _ b _ _ _ _ _ _ _ => b.getD j (.Pass ⟨0, 0, 0, 0⟩)
  | _ => .Pass ⟨0, 0, 0, 0⟩
/-- a def as it stands behind the top, its defaults whatever they are -/
structure FunX (K : PySem.W.Frag) (x qual : Str) (st : Stmt) (f : Addr) (fd : FuncData) : Prop where
  ex : ∃ (oc : Value) (od : Option Addr) (dV kV doc pm : Value) (an : Option Addr) (cdv ct : Value) (osl : Array (Option Value)),
    fd = PySem.W.fnOf x qual (defArgs st) (defBody st) (defScope st) dV kV doc pm an cdv ct ∧ K.lookup f = some ⟨oc, od, .func fd, osl⟩ ∧ PySem.W.codeIn K cdv qual = true
  kp : PySem.W.keepIn K (.ref f) = true
section
variable {P : Program} {w : World} {K : PySem.W.Frag} {mg : Str → Option Value} {base : Heap} {cl : Str → Addr}
theorem funX_mk {x qual : Str} {st : Stmt} {f : Addr} {oc : Value} {od an : Option Addr} {osl : Array (Option Value)} {dV kV doc pm cdv ct : Value} (l : K.lookup f = some ⟨oc, od, .func (PySem.W.fnOf x qual (defArgs st) (defBody st) (defScope st) dV kV doc pm an cdv ct), osl⟩)
    (c : PySem.W.codeIn K cdv qual = true) (k : PySem.W.keepIn K (.ref f) = true) : FunX K x qual st f (PySem.W.fnOf x qual (defArgs st) (defBody st) (defScope st) dV kV doc pm an cdv ct) := ⟨⟨oc, od, dV, kV, doc, pm, an, cdv, ct, osl, rfl, l, c⟩, k⟩
theorem fng_ofX {Cn : CXT} {k : Nat} {x qual : Str} {st : Stmt} {f : Addr} {fd : FuncData} {N ps : List Str} {sp : Sp} (F : FunX K x qual st f fd) (S : FnScope N ps (defScope st))
    (gl : ∀ vs H Q E, sp vs H Q E → vs.length = ps.length)
    (hbody : ∀ (cdv : Value) (A : Around) (outer : List Env) (s : Shared) (H : Hp) (vs : List V) (Q : VK) (E : XK), Room k (A.deeper (envOfC qual (defScope st) s.heap.objs.size f cdv)) →
      A.guards = some [] → sp vs H Q E → ∃ t, PSs (cxOf Cn P w K mg base N qual (defScope st) f cdv A outer s H E) (defBody st) t ∧ t { nx := fun _ H' => Q .non H', rt := Q } (start N vs) H) :
    FnG P w K mg base Cn (k + 1) f fd ps sp := by
  obtain ⟨oc, od, dV, kV, doc, pm, an, cdv, ct, osl, rfl, lk, cod⟩ := F.ex
  refine ⟨gl, ?_⟩
  intro A outer s H args us vs Q E room gu e0 bnd rel hsp
  have hlen := gl _ _ _ _ hsp
  have inK : K.In s.heap := e0.mod.kin.keeps fun a u q => (e0.bs a u q).1
  have nolim : s.heap.NoLimit := e0.mod.nolimit.keeps fun a u q => (e0.bs a u q).1
  have kinds : ∀ y ∈ ps.zip us, (defScope st).names.lookup y.1 = some .local ∨
      ((defScope st).names.lookup y.1 = some .cell ∧ ((cellsFrom (s.heap.objs.size + 1) (defScope st).names []).lookup y.1).isSome = true) := by
    rintro ⟨n, v⟩ hy
    cases S.par n (List.of_mem_zip hy).1 with
    | inl z => exact .inl z
    | inr z => exact .inr ⟨z, PySem.W.cellsFrom_some _ _ _ (.inl z)⟩
  refine codeAny_call_function room.depth (inK _ _ lk) rfl S.co S.gen rfl (PySem.W.codeRec_of inK cod) (bnd _ _ _ _ ?_)
  refine wpAny_newFunctionEnv_cells S.kind kinds ?_
  intro env he s1 made
  subst he
  refine ⟨nolim.keeps made.toInCall.keep, codeAny_func ?_⟩
  obtain ⟨t, tr, tq⟩ := hbody cdv A outer s H vs Q E (room.deeper _) gu hsp
  have I0 := inv_start (CX := Cn) (E := E) S room.hd e0 hlen rel made
  refine wpAny_mono (tr.run [] s1 (start N vs) H _ I0 tq) ?_ fun e s' z => z
  intro fl s' end'
  cases fl with
  | brk => obtain ⟨_, _, _, z⟩ := end'; exact z.elim
  | cont => obtain ⟨_, _, _, z⟩ := end'; exact z.elim
  | next =>
    obtain ⟨σ', H', J, z⟩ := end'
    exact ⟨.non, H', J.os, J.bare, J.base, J.hok, rfl, z⟩
  | ret u =>
    obtain ⟨v, σ', H', J, rv, z⟩ := end'
    exact ⟨v, H', J.os, J.bare, J.base, J.hok, rv, z⟩
theorem fnpX {x qual : Str} {st : Stmt} {f : Addr} {fd : FuncData} {N ps : List Str} {k n : Nat} {g : Stt → Fl} (F : FunX K x qual st f fd) (S : FnScope N ps (defScope st)) (hn : N.length = n)
    (hbody : ∀ (cdv : Value) (A : Around) (outer : List Env) (s : Shared) (H : Hp) (E : XK) (C : Fx), C.K = K → C.cl = cl → Room k (A.deeper (envOfC qual (defScope st) s.heap.objs.size f cdv)) →
      Bd (cxOf (L2.CX P w) P w K mg base N qual (defScope st) f cdv A outer s H E) (fun c d _ H => E c d H) →
      DSs (cxOf (L2.CX P w) P w K mg base N qual (defScope st) f cdv A outer s H E) C (fun c d _ H => E c d H) (defBody st) g) : FnP P w K mg base cl (k + 1) f fd ps (mOf n g) := by
  subst hn
  refine fng_ofX F S (fun vs H Q E h => h.1) (fun cdv A outer s H vs Q E hr gu h => ?_)
  obtain ⟨hl, C, F0, as, mu, hK, hcl, o, r, p⟩ := h
  have bd : Bd (cxOf (L2.CX P w) P w K mg base N qual (defScope st) f cdv A outer s H E) (fun c d _ H => E c d H) := ⟨rfl, passes_of (K := fun e s'' => L2.CX P w outer H s E e s'') rfl, takes_of rfl rfl rfl rfl, hr.hd, gu⟩
  obtain ⟨t, h1, h2⟩ := (hbody cdv A outer s H E C hK hcl hr bd).pr
  exact ⟨t, h1, h2 F0 noA H _ _ _ (okF_start (N := N) o r) (postF_end (fun _ _ _ _ h => h) p)⟩
/-- the last parameter has a default -/
theorem binds_d1 {x qual : Str} {params : Arguments} {body : List Stmt} {scope : Scope} {f T t : Addr} {oc oc2 : Value} {od od2 an : Option Addr} {osl osl2 : Array (Option Value)} {kV doc pm cdv ct : Value} {n m : Nat} {ps : List Str}
    (lT : K.lookup T = some ⟨oc2, od2, .seq #[.ref t] n, osl2⟩) (hm : m + 1 = ps.length)
    (h : ∀ us : List Value, us.length = m → ∃ k, bindArgs (PySem.W.fnOf x qual params body scope (.ref T) kV doc pm an cdv ct) ⟨us, []⟩ = seqItems? (.ref T) >>= k ∧ k (some #[.ref t]) = pure (ps.zip (us ++ [.ref t]))) :
    Binds K (PySem.W.fnOf x qual params body scope (.ref T) kV doc pm an cdv ct) ps [.ref t] := by
  intro s us X hlen
  have l2 : us.length = m := by
    rw [List.length_append, List.length_singleton] at hlen
    omega
  obtain ⟨k, e1, e2⟩ := h us l2
  refine BindsTo.of_looks fun M => ?_
  rw [e1]
  exact looks_items X lT rfl (.of_pure e2)
end
section
variable {X : Cx} {C : Fx} {W : WX} {k n : Nat} {f : Addr} {fd : FuncData} {ps : List Str} {x c : Str} {p pos : Pos} {e : Expr} {es : List Expr} {m : List SV → List MO → FRes} {fa : Stt → Res (List PV)}
/-- K(e, ..), every parameter written -/
theorem dv_make0 (M : Mk X.K (C.cl c) f) (Fn : FnP X.prog X.w X.K X.mg X.base C.cl k f fd ps m) (hr : Room (k + 1) X.A) (gu : X.A.guards = some []) (tk : Takes X W) (hK : X.K = C.K) (hm : X.mg x = some (.ref (C.cl c))) (hb : Binds X.K fd ps []) (ha : DA X C W (e :: es) fa)
    (hg : Gl X x := by rfl) (hdb : (x == ("__debug__" : Str)) = false := by decide) (he : starEach (e :: es) X.env = (false, eval e X.env) :: starEach es X.env := by rfl) (hpl : (backTo pos (starEach es X.env)).any (·.1) = false := by rfl) (hnn : ps.length = n := by rfl) :
    DV X C W (.Call (.Name x p) (e :: es) [] pos) (eMake c m n [] fa) := dv_make M Fn hr gu tk hK hm hb .nil (fun _ _ _ => .nil) ha hg hdb he hpl hnn
/-- K(e, ..), the last parameter left out -/
theorem dv_make1 {dp : PV} (M : Mk X.K (C.cl c) f) (Fn : FnP X.prog X.w X.K X.mg X.base C.cl k f fd ps m) (hr : Room (k + 1) X.A) (gu : X.A.guards = some []) (tk : Takes X W) (hK : X.K = C.K) (hm : X.mg x = some (.ref (C.cl c))) (hb : ∃ u, Binds X.K fd ps [u] ∧ KvV X.K u dp) (ha : DA X C W (e :: es) fa)
    (hg : Gl X x := by rfl) (hdb : (x == ("__debug__" : Str)) = false := by decide) (he : starEach (e :: es) X.env = (false, eval e X.env) :: starEach es X.env := by rfl) (hpl : (backTo pos (starEach es X.env)).any (·.1) = false := by rfl) (hnn : ps.length = n := by rfl) :
    DV X C W (.Call (.Name x p) (e :: es) [] pos) (eMake c m n [dp] fa) := by
  obtain ⟨u, h1, h2⟩ := hb
  obtain ⟨v, h3, h4⟩ := h2.rp
  exact dv_make M Fn hr gu tk hK hm h1 (.cons h3 .nil) (fun D F e => .cons (h4 D F e) .nil) ha hg hdb he hpl hnn
end
/-! ### tables from their facts -/
inductive KvL (K : PySem.W.Frag) (p : Addr) : List (Str × PV) → Prop
  | nil : KvL K p []
  | cons {k : Str} {u : Value} {v : PV} {r : List (Str × PV)} : PySem.W.nsIn K p k = some (some u) → KvV K u v → KvL K p r → KvL K p ((k, v) :: r)
theorem KvL.look {K : PySem.W.Frag} {p : Addr} {k : Str} {pv : PV} : ∀ {tbl : List (Str × PV)}, KvL K p tbl → tbl.lookup k = some pv → ∃ u, PySem.W.nsIn K p k = some (some u) ∧ KvV K u pv
  | [], _, h => by simp at h
  | (k', v) :: r, .cons h1 h2 h3, h => by
    rw [List.lookup_cons] at h
    cases e : (k == k') with
    | true =>
      rw [e] at h
      cases h
      have ek : k = k' := eq_of_beq e
      subst ek
      exact ⟨_, h1, h2⟩
    | false =>
      rw [e] at h
      exact KvL.look h3 h
theorem dct_mk {w : World} {K : PySem.W.Frag} {mg : Str → Option Value} {x : Str} {tbl : List (Str × PV)} {p : Addr} {es : Array DictEntry} {n : Nat} {ks : List Str} (hm : mg x = some (.ref p)) (hl : K.lookup p = some ⟨.type "dict", none, .dict es n, #[]⟩)
    (hk : es.toList.map He.keyOf = He.keysIn w.params ks) (low : (p == sysModules) = false) (h : KvL K p tbl) : DctT w K mg x tbl :=
  ⟨p, es, n, hm, ⟨hl, He.keysLit_of hk, low⟩, fun _ _ e => h.look e⟩
end PL

/-! PL32: list(range(a, b)), numbers of any size. -/
namespace PLR
open PySem
open AutoSeq1 (wpAny_loadPart')
section
variable {prog : Program} {w : World} {A : Around} {E : Value → Shared → Prop} {s : Shared}
theorem extend_long {R : Result → Shared → Prop} {r : Addr} {a b c : Int} {t u v : Tok} {n : Nat} (hh : A.handled = none) (hr : IsRange s.heap r a b c t u v) (hbig : Builtin.Range.small a b c = false)
    (hn : Builtin.Range.rangeSize a b c = n) (hlen : n ≤ 2 ^ 24) (S : Addr) (res : Value) (c₀ : Nat) (hS : s.heap.get? S = some { cls := .type "list", data := .seq #[] c₀ })
    (hR : ∀ h' tk acc' c', (∀ b o, b ≠ S → s.heap.get? b = some o → h'.get? b = some o) → h'.get? S = some { cls := .type "list", dict := none, data := .seq acc' c', slots := #[] } →
      ItemsOf (fun i v => ∃ t, v = .int (a + i * c) t) acc' n → R (.ok (.ret res)) { s with heap := h', toks := tk }) :
    wpAny (model prog w) A.in1 (Builtin.List.listExtendWith (.ref S) (.ref r) res)
      (fun fin s' => match fin with | .done f => R (.ok f) s' | .again c' => c'.quiet = true ∧ codeAny (model prog w) A c' R s') (fun e s' => R (.error e) s') s := by
  have hSr : S ≠ r := fun e => by rw [e, hr] at hS; simp at hS
  have hSlt : S < s.heap.objs.size := Heap.lt_size hS
  have hSI : S ≠ s.heap.objs.size := Nat.ne_of_lt hSlt
  have hSf : S ∉ [s.heap.objs.size] := fun hm => hSI (List.mem_singleton.mp hm)
  have W := (Walks.longrange (prog := prog) (w := w) (A := A.in1) hh s.heap.objs.size a c n).toS

  have key : ∀ (h : Heap) (c₁ tk : Nat), IsLongIter h s.heap.objs.size (a + ((0 : Nat) : Int) * c) ((n : Int) - ((0 : Nat) : Int)) c → (∀ b o, b ≠ S → s.heap.get? b = some o → h.get? b = some o) →
      h.get? S = some { cls := .type "list", data := .seq #[] c₁ } → codeAny (model prog w) A (.builtin "list.extend.loop" ⟨[.ref S, .ref s.heap.objs.size, res], []⟩) R { s with heap := h, toks := tk } := by
    intro h c₁ tk hit hk hS₁
    refine codeAny_extend_loopS W (by rw [sizeLine_eq]; omega) S hSf res n 0 _ #[] c₁ rfl (Nat.zero_le _) hit hS₁ (ItemsOf.nil _) fun s' acc' c' hm hS' hacc => ?_
    rw [Moved.eq_with hm]
    refine hR s'.heap s'.toks acc' c' (fun b o hb e => hm.heap b o (fun hmem => ?_) (hk b o hb e)) hS' hacc
    rcases List.mem_cons.mp hmem with e' | hmem
    · exact hb e'
    · exact absurd (Heap.lt_size e) (by rw [List.mem_singleton.mp hmem]; exact Nat.lt_irrefl _)
  unfold Builtin.List.listExtendWith
  refine wpAny_bind (wpAny_typeOf (T := "range") ⟨_, hr, rfl⟩ ?_)
  have h1 : Builtin.List.listSameRef (.ref S) (.ref r) = false := by simp [Builtin.List.listSameRef, hSr]
  have h2 : (Value.type "range" == Value.type "list") = false := by decide
  have h3 : (Value.type "range" == Value.type "tuple") = false := by decide
  simp only [h1, h2, h3, Bool.or_false, Bool.false_eq_true, if_false]
  refine wpAny_bind (wpAny_pyIter_longrange hr hbig ?_)
  refine wpAny_bind (wpAny_holding (wpAny_hint_range (n := n) (Heap.get?_push_of_some _ hr) hn hlen ?_))
  have hit₁ : IsLongIter (s.heap.push { cls := .type "longrange_iterator", data := .fields #[rawInt a, rawInt (Builtin.Range.rangeSize a b c), rawInt c] }) s.heap.objs.size (a + ((0 : Nat) : Int) * c) ((n : Int) - ((0 : Nat) : Int)) c := by
    show IsLongIter _ _ _ _ _; rw [hn]; simpa using Heap.get?_push_size _ rfl
  have hS₁ := Heap.get?_push_of_some { cls := .type "longrange_iterator", data := .fields #[rawInt a, rawInt (Builtin.Range.rangeSize a b c), rawInt c] } hS
  refine wpAny_ite_split (fun _ => ?_) (fun _ => wpAny_pure ⟨plainId_quiet F.plain_extend_loop _, key _ c₀ _ hit₁ (fun b o _ e => Heap.get?_push_of_some _ e) hS₁⟩)
  refine wpAny_bind (wpAny_rule ?_)
  refine wpAny_bind ?_
  show wpAny _ _ (updateSeq S (·.push .none) >>= fun _ => updateSeq S (·.pop)) _ _ _
  refine wpAny_bind (wpAny_updateSeq hS₁ rfl ?_)
  have hS₂ := Heap.get?_update_self (Obj.mapSeq (·.push Value.none)) hS₁ rfl
  refine wpAny_updateSeq (hz := by seq_fits) hS₂ rfl ?_
  have hS₃ := Heap.get?_update_self (Obj.mapSeq (·.pop)) hS₂ rfl
  refine wpAny_pure ⟨plainId_quiet F.plain_extend_loop _, key _ _ _ ?_ (fun b o hb e => ?_) hS₃⟩
  · exact (Heap.get?_update_other _ _ hSI).trans ((Heap.get?_update_other _ _ hSI).trans hit₁)
  · exact (Heap.get?_update_other _ _ (Ne.symm hb)).trans ((Heap.get?_update_other _ _ (Ne.symm hb)).trans (Heap.get?_push_of_some _ e))

theorem init_long {R : Result → Shared → Prop} {r : Addr} {a b c : Int} {t u v : Tok} {n : Nat} (hh : A.handled = none) (hr : IsRange s.heap r a b c t u v) (hbig : Builtin.Range.small a b c = false)
    (hn : Builtin.Range.rangeSize a b c = n) (hlen : n ≤ 2 ^ 24) (S : Addr) (hS : s.heap.get? S = some { cls := .type "list", data := .seq #[] })
    (hR : ∀ h' tk acc' c', (∀ b o, b ≠ S → s.heap.get? b = some o → h'.get? b = some o) → h'.get? S = some { cls := .type "list", dict := none, data := .seq acc' c', slots := #[] } →
      ItemsOf (fun i v => ∃ t, v = .int (a + i * c) t) acc' n → R (.ok (.ret .none)) { s with heap := h', toks := tk }) :
    wpAny (model prog w) A.in1 (Builtin.«list.__init__» ⟨[.ref S, .ref r], []⟩)
      (fun fin s' => match fin with | .done f => R (.ok f) s' | .again c' => c'.quiet = true ∧ codeAny (model prog w) A c' R s') (fun e s' => R (.error e) s') s := by
  have hSr : S ≠ r := fun e => by rw [e, hr] at hS; simp at hS
  show wpAny _ _ (do let old ← Builtin.List.listItems (.ref S); Builtin.List.listUpdate (.ref S) (fun _ => #[]); letGo old.toList.reverse; Builtin.List.listExtendWith (.ref S) (.ref r) .none) _ _ s
  refine wpAny_bind ?_
  unfold Builtin.List.listItems
  refine wpAny_bind (wpAny_seqItems hS rfl (wpAny_pure ?_))
  show wpAny _ _ (updateSeq S (fun _ => #[]) >>= fun _ => letGo (#[] : Array Value).toList.reverse >>= fun _ => Builtin.List.listExtendWith (.ref S) (.ref r) .none) _ _ s
  refine wpAny_bind (wpAny_updateSeq hS rfl ?_)
  have hS₂ := Heap.get?_update_self (Obj.mapSeq (fun _ => (#[] : Array Value))) hS rfl
  have oth : ∀ b o, b ≠ S → s.heap.get? b = some o → (s.heap.update S (Obj.mapSeq (fun _ => (#[] : Array Value)))).get? b = some o :=
    fun b o hb e => (Heap.get?_update_other _ _ (Ne.symm hb)).trans e
  refine wpAny_bind (wpAny_letGo ?_)
  refine extend_long hh (oth r _ (Ne.symm hSr) hr) hbig hn hlen S .none _ hS₂ fun h' tk acc' c' hk hS' hacc => ?_
  exact hR h' tk acc' c' (fun b o hb e => hk b o hb (oth b o hb e)) hS' hacc
end
section
variable {prog : Program} {w : World} {A : Around} {E : Value → Shared → Prop} {s : Shared}
theorem list_long {Q : Value → Shared → Prop} {r : Addr} {a b c : Int} {t u v : Tok} {n : Nat} (hh : A.handled = none) (hr : IsRange s.heap r a b c t u v) (hbig : Builtin.Range.small a b c = false)
    (hn : Builtin.Range.rangeSize a b c = n) (hlen : n ≤ 2 ^ 24)
    (hQ : ∀ h' tk acc' c', (∀ b o, s.heap.get? b = some o → h'.get? b = some o) →
      h'.get? s.heap.objs.size = some { cls := .type "list", dict := none, data := .seq acc' c', slots := #[] } → ItemsOf (fun i v => ∃ t, v = .int (a + i * c) t) acc' n → Q (.ref s.heap.objs.size) { s with heap := h', toks := tk }) :
    wpAny (model prog w) A (call (.type "list") [.ref r]) Q E s := by
  refine callType_codes (Q₁ := fun obj s₁ => obj = .ref s.heap.objs.size ∧ s₁ = { s with heap := s.heap.push { cls := .type "list", data := .seq #[] } }) F.called_list (F.typeCall_list_1 _) F.entry_list_init
    (code_list_new _ ⟨rfl, rfl⟩) fun obj s₁ h₁ => ?_
  obtain ⟨rfl, rfl⟩ := h₁
  have hS : (s.heap.push { cls := .type "list", data := .seq #[] }).get? s.heap.objs.size = some { cls := .type "list", data := .seq #[] } := Heap.get?_push_size _ rfl
  refine ⟨⟨_, hS, rfl⟩, F.args_list_init_2 _ _, init_long (A := A.in1) hh (Heap.get?_push_of_some _ hr) hbig hn hlen _ hS fun h' tk acc' c' hk hS' hacc => ?_⟩
  exact ⟨rfl, hQ h' tk acc' c' (fun b o e => hk b o (Nat.ne_of_lt (Heap.lt_size e)) (Heap.get?_push_of_some _ e)) hS' hacc⟩
end
end PLR
namespace PL
open PySem PySem.Spec PyProof.Rows L2
section
variable {X : Cx} {C : Fx} {W : WX} {a b : Expr} {pos : Pos} {fe fb : Stt → Res PV} {e : Expr} {te : L2.St → Hp → (Int → Int → Hp → Prop) → Prop}
def tLstRgW (te : L2.St → Hp → (Int → Int → Hp → Prop) → Prop) : TE := fun σ H Q => te σ H fun a b H1 => b - a ≤ 16777216 ∧ ∀ q, H1 q = none → Q (.ref q) (L2.upd H1 q (.lst (rgV a b)))
theorem pe_listRgW {p pos : Pos} (hc : X.calm = true) (hg : Gl X "list") (hm : X.mg "list" = none) (he : PRg X e te) (na : starEach [e] X.env = (false, eval e X.env) :: starEach [] X.env := by rfl) : PE X (.Call (.Name "list" p) [e] [] pos) (tLstRgW te) := by
  refine ⟨fun pins s σ H Q I h => ?_⟩
  refine Call_ (ld_blt I hg hm boot_list (PyProof.Rows.callWith_type1 (PyProof.Rows.args_cons (thn (he pins s σ H _ I h) fun x s1 ⟨r, a, b, t, u, v, H1, ex, hr, I1, ok, q⟩ => PyProof.Rows.args_nil ?_) na) na))
  subst ex
  have fin : ∀ (h' : Heap) (tk : Nat) (acc : Array Value) (c' : Nat), (∀ b o, s1.heap.get? b = some o → h'.get? b = some o) → h'.get? s1.heap.objs.size = some { cls := .type "list", dict := none, data := .seq acc c', slots := #[] } →
      ItemsOf (fun i v => ∃ t, v = .int (a + i * 1) t) acc (b - a).toNat → EP X pins σ Q (.ref s1.heap.objs.size) { s1 with heap := h', toks := tk } := fun h' tk acc c' hk e' hi => by
    refine ⟨.ref s1.heap.objs.size, L2.upd H1 s1.heap.objs.size (.lst (rgV a b)), I1.laid hk (Nat.le_refl _) (show ObjOk X.prog X.w _ _ _ (.lst (rgV a b)) from ⟨?_, acc.toList, c', vals_rg hi, ?_⟩), rfl, q _ (I1.hok.fresh (Nat.le_refl _))⟩
    · rw [rgV_length, sizeLine_eq]; omega
    · rw [Array.toArray_toList]; exact e'
  by_cases hs : Builtin.Range.small a b 1 = true
  · exact call_list_range (n := (b - a).toNat) (I1.ok.hd hc) hr hs (rangeSize_nat a b) (by omega) fin
  · exact PLR.list_long (n := (b - a).toNat) (I1.ok.hd hc) hr (by simpa using hs) (rangeSize_nat a b) (by omega) fin
def oRgW (i j : Int) (s : Stt) : Res MO := if j - i ≤ 16777216 then .ok (.lst (rng i (j - i).toNat)) s else .stuck
def oRgW2 (fa fb : Stt → Res PV) : Stt → Res MO := fun s => (fa s).bind fun p s1 => (fb s1).bind fun q s2 => match p, q with
  | .int i, .int j => oRgW i j s2
  | _, _ => .stuck
theorem rgW_fresh {F H : Hp} {A : Nat → List Addr} {σ : L2.St} {s : Stt} {Q : VK} {i j : Int} (o : OkF C F A H σ s) (p : PostO C W F A H σ (oRgW i j s) Q) : j - i ≤ 16777216 ∧ ∀ q, H q = none → Q (.ref q) (L2.upd H q (.lst (rgV i j))) := by
  unfold oRgW at p
  split at p
  · rename_i h
    refine ⟨h, fun q hq => ?_⟩
    have hr : Rps C F (rgV i j) (rng i (j - i).toNat) := by
      unfold rgV rng
      have key : ∀ l : List Nat, Rps C F (l.map fun k => V.int (i + (k : Nat))) (l.map fun k : Nat => PV.int (i + k)) := by
        intro l
        induction l with
        | nil => exact .nil
        | cons x r ih => exact .cons (.int _) ih
      exact key _
    obtain ⟨o4, st4, f4⟩ := o.fresh (u := .lst (rgV i j)) (m := .lst (rng i (j - i).toNat)) hq ⟨rfl, _, L2.upd_same, hr⟩
    exact p q _ _ _ o4 st4 f4
  · exact p.elim
theorem do_rgW2 {p pos2 : Pos} {p2 : Pos} (hc : X.calm = true) (hg : Gl X "list") (hm : X.mg "list" = none) (hg2 : Gl X "range") (hm2 : X.mg "range" = none) (ha : DV X C W a fe) (hb : DV X C W b fb)
    (na : starEach [.Call (.Name "range" p2) [a, b] [] pos2] X.env = (false, eval (.Call (.Name "range" p2) [a, b] [] pos2) X.env) :: starEach [] X.env := by rfl) (na2 : starEach [a, b] X.env = (false, eval a X.env) :: starEach [b] X.env := by rfl) (na3 : starEach [b] X.env = (false, eval b X.env) :: starEach [] X.env := by rfl) (na4 : (backTo pos2 (starEach [b] X.env)).any (·.1) = false := by rfl) :
    DO X C W (.Call (.Name "list" p) [.Call (.Name "range" p2) [a, b] [] pos2] [] pos) (oRgW2 fe fb) := by
  obtain ⟨ta, pa, qa⟩ := ha.pr
  obtain ⟨tb, pb, qb⟩ := hb.pr
  refine ⟨_, pe_listRgW hc hg hm (prg_2 hg2 hm2 pa pb na2 na3 na4) na, fun F A H σ s Q o p => ?_⟩
  refine qa F A H σ s _ o (PostO.seq p fun q1 s1 v1 F1 A1 H1 _ o1 st1 r1 p1 => ?_)
  refine qb F1 A1 H1 σ s1 _ o1 (PostO.seq p1 fun q2 s2 v2 F2 A2 H2 _ o2 st2 r2 p2 => ?_)
  cases r1 with
  | int i =>
    cases r2 with
    | int j => exact ⟨i, j, rfl, rfl, rgW_fresh o2 p2⟩
    | _ => exact p2.elim
  | _ => cases r2 <;> exact p2.elim
end
end PL

/-! PL33: enumerate(e), e a list or a tuple. -/
namespace PLT2
open PySem
open AutoSeq1 (wpAny_loadPart')
theorem meets_enum_tup (l : Addr) (items : Array Value) (n : Nat) (dct : Option Addr) (sl : Array (Option Value)) :
    Meets (Builtin.«enumerate.__new__» ⟨[.type "enumerate", .ref l], []⟩) (fun _ R s => s.heap.get? l = some { cls := .type "tuple", dict := dct, data := .seq items n, slots := sl } ∧
      R (.ok (.ret (.ref (s.heap.push { cls := .type "tuple_iterator", data := .fields #[.ref l, .int 0 0] }).objs.size)))
        { s with heap := (s.heap.push { cls := .type "tuple_iterator", data := .fields #[.ref l, .int 0 0] }).push { cls := .type "enumerate", data := .fields #[.none, .bool false, .ref s.heap.objs.size, rawInt 0, .none, .none] } }) :=
  .of_wp fun prog w A R s h => by
    obtain ⟨hp, g, d, tk, os⟩ := s; obtain ⟨hl, h⟩ := h
    have hsub := sub_enumerate
    have hL : Heap.IsTuple (Shared.heap ⟨hp, g, d, tk, os⟩) l items := ⟨_, hl, rfl, n, rfl⟩
    wp_walk using wpAny_loadPart' hl
    refine wpAny_stack_any fun st => wpAny_pure ?_
    split
    · rename_i c _ _ _ _ _
      cases (c == Value.type "enumerate") <;> (wp_walk using wpAny_loadPart' hl, wpAny_pyIter_tuple hL; exact ⟨_, rfl, h⟩)
    · wp_walk using wpAny_loadPart' hl, wpAny_pyIter_tuple hL
      exact ⟨_, rfl, h⟩
section
variable {prog : Program} {w : World} {A : Around} {E : Value → Shared → Prop} {s : Shared}
theorem call_enum_tup {l : Addr} {items : Array Value} {Q : Value → Shared → Prop} (hL : s.heap.IsTuple l items)
    (h : ∀ h', IsEnum h' (s.heap.objs.size + 1) s.heap.objs.size 0 .none → h'.IsTupleIter s.heap.objs.size l 0 → h'.objs.size = s.heap.objs.size + 2 →
      (∀ b o, s.heap.get? b = some o → h'.get? b = some o) → Q (.ref (s.heap.objs.size + 1)) { s with heap := h' }) :
    wpAny (model prog w) A (call (.type "enumerate") [.ref l]) Q E s := by
  obtain ⟨⟨c, dct, dt, sl⟩, hl, hc, n, hd⟩ := hL
  replace hc : c = .type "tuple" := hc
  replace hd : dt = .seq items n := hd
  subst hc hd
  refine callType_new F.called_enumerate (by decide) (F.typeCall_enumerate_1 _) (F.newCall_enumerate_1 _) (fun obj => F.args_object_init_2 obj _) F.entry_enumerate_new
    (meets_enum_tup l items n dct sl) ⟨hl, ?_⟩
  have hz : (s.heap.push { cls := .type "tuple_iterator", data := .fields #[.ref l, .int 0 0] }).objs.size = s.heap.objs.size + 1 := Heap.size_push ..
  show _ ∧ _
  rw [hz]
  have he : IsEnum ((s.heap.push { cls := .type "tuple_iterator", data := .fields #[.ref l, .int 0 0] }).push
      { cls := .type "enumerate", data := .fields #[.none, .bool false, .ref s.heap.objs.size, rawInt 0, .none, .none] }) (s.heap.objs.size + 1) s.heap.objs.size 0 .none := by
    have := Heap.get?_push_size (s.heap.push { cls := .type "tuple_iterator", data := .fields #[.ref l, .int 0 0] })
      (o := { cls := .type "enumerate", data := .fields #[.none, .bool false, .ref s.heap.objs.size, rawInt 0, .none, .none] }) rfl
    rw [hz] at this; exact this
  refine ⟨⟨_, he, rfl⟩, h _ he ⟨_, Heap.get?_push_of_some _ (Heap.get?_push_size _ rfl), rfl, rfl⟩ (by rw [Heap.size_push, hz]) fun b o x => Heap.get?_push_of_some _ (Heap.get?_push_of_some _ x)⟩
end
end PLT2
namespace PL
open PySem PySem.Spec PyProof.Rows L2
/-- the tuple at a, each item in a new pair -/
def IteT (K : PySem.W.Frag) (a : Addr) : It :=
  ⟨fun i H => ∃ (xs : List V) (x : V), SqT K H a xs ∧ xs[i]? = some x, fun i H v H' => ∃ T x, v = .ref T ∧ H T = none ∧ H' = L2.upd H T (.tup [.int (i : Nat), x]) ∧ ∀ xs, SqT K H a xs → xs[i]? = some x, fun i H => ∃ xs : List V, SqT K H a xs ∧ xs.length ≤ i⟩
theorem turn_enumT {P : Program} {w : World} {K : PySem.W.Frag} {elts : List Expr} {kk : Nat} {tpos : Pos} (a e it : Addr) :
    Turn P w K (.Tuple elts kk tpos) (IteT K a) [e, it] e (fun i h => (∃ old, IsEnum h e it ((i : Nat) : Int) old) ∧ h.IsTupleIter it a i ∧ e ≠ it) where
  mem := by simp
  obj := fun i h st b hb => by
    obtain ⟨⟨old, he⟩, ⟨o, ho, hc, hd⟩, _⟩ := st
    have e' : b = e ∨ b = it := by simpa using hb
    rcases e' with z | z
    · rw [z]; exact ⟨_, he, fun v q => nomatch q⟩
    · rw [z]; exact ⟨o, ho, fun v q => by rw [hd] at q; cases q⟩
  keep := fun i h h' st k => let ⟨⟨old, he⟩, hi, hne⟩ := st; ⟨⟨old, k e (by simp) _ he⟩, hi.at fun o q => k it (by simp) o q, hne⟩
  item := by
    intro X hP hw hK hc i pins s σ H E I hf st hg
    subst hP hw hK
    obtain ⟨⟨old, he⟩, hit, hne⟩ := st
    obtain ⟨xs, x, hq, hx⟩ := hg
    obtain ⟨its, rv, p, hz⟩ := I.tuple hq
    obtain ⟨u, hu, ru⟩ := rv.get hx
    have hel : e < s.heap.objs.size := Heap.lt_size he
    have hil : it < s.heap.objs.size := by obtain ⟨_, q, _⟩ := hit; exact Heap.lt_size q
    have hT : s.heap.IsTuple a its.toArray := p
    have hau : a ≠ it := by
      intro z
      obtain ⟨o1, q1, q2, _⟩ := hT
      obtain ⟨o2, q3, q4, _⟩ := hit
      rw [z, q3] at q1
      cases q1
      rw [q4] at q2
      exact absurd (Value.type.inj q2) (by decide)
    have hae : e ∉ [it, a] := by
      intro z
      rcases List.mem_cons.mp z with z | z
      · exact hne z
      · rw [List.mem_singleton] at z
        obtain ⟨o1, q1, q2, _⟩ := hT
        rw [← z, he] at q1
        cases q1
        exact absurd (Value.type.inj q2) (by decide)
    have D := Draws.tuple (prog := X.prog) (w := X.w) (A := X.A.in1) (I.ok.hd hc) it a hau its.toArray
    have hi : i < its.toArray.size := by
      have := (List.getElem?_eq_some_iff.mp hu).1
      simpa using this
    refine wpAny_pyNext_enum_itemD D he ⟨hit, hT⟩ hi hne hae fun x' h' tk hx' ho hst hTn hsz hk => ?_
    have ex : u = x' := by
      have h1 : its.toArray[i]? = some x' := hx'
      rw [List.getElem?_toArray, hu] at h1
      exact Option.some.inj h1
    subst ex
    refine ⟨_, rfl, wpAny_letOwnedTupleGo_enum (s := { s with heap := h', toks := tk + 1 }) ho fun h'' he' sb => ?_⟩
    have hT2 : h''.get? s.heap.objs.size = some { cls := .type "tuple", data := .seq #[.int i tk, u] } := (sb.2 _ (Nat.ne_of_gt hel)).trans hTn
    have new : ObjOk X.prog X.w (L2.upd H s.heap.objs.size (.tup [.int (i : Nat), x])) h'' s.heap.objs.size (.tup [.int (i : Nat), x]) :=
      ⟨by show 2 ≤ sizeLine; decide, [.int i tk, u], .cons ⟨_, rfl⟩ (.cons ru .nil), ⟨_, hT2, rfl, _, rfl⟩⟩
    have I1 : Inv X pins σ (L2.upd H s.heap.objs.size (.tup [.int (i : Nat), x])) { s with heap := h'', toks := tk + 1 } :=
      I.turnedNew (ch := [e, it]) (fun b ob hb q => (sb.2 b (fun z => hb (by simp [z]))).trans (hk b ob (fun z => hb (by simp [z])) (fun z => hb (by simp [z])) q)) hf (Nat.le_refl _) new
    refine ⟨.ref s.heap.objs.size, _, I1, rfl, ⟨_, x, rfl, I.hok.fresh (Nat.le_refl _), rfl, fun ys hy => by rw [I.tuple_inj hy hq]; exact hx⟩, ⟨⟨u, ?_⟩, hst.1.at fun o q => (sb.2 it (Ne.symm hne)).trans q, hne⟩, fun b hb => ?_⟩
    · have e1 : ((i + 1 : Nat) : Int) = (i : Int) + 1 := by omega
      rw [e1]; exact he'
    · have hb' : b < s.heap.objs.size := by
        have e' : b = e ∨ b = it := by simpa using hb
        rcases e' with z | z
        · rw [z]; exact hel
        · rw [z]; exact hil
      rw [L2.upd_ne (Nat.ne_of_lt hb')]
      exact (hf b hb).1
  done := by
    intro X hP hw hK hc i pins s σ H E I hf st hg
    subst hP hw hK
    obtain ⟨⟨old, he⟩, hit, hne⟩ := st
    obtain ⟨xs, hq, hx⟩ := hg
    obtain ⟨its, rv, p, hz⟩ := I.tuple hq
    have hT : s.heap.IsTuple a its.toArray := p
    obtain ⟨f0, f1, f2, f3, f4, f5⟩ := hf it (by simp)
    have hl := rv.length
    unfold pyNext
    have hTy : s.TypeIs (.ref e) "enumerate" := ⟨_, he, rfl⟩
    refine wpAny_bind (wpAny_attempt (wpAny_callSpecial?_slot (name := Str.ofString "__next__") hTy F.slot_enumerate_next
      (wpAny_call_entry F.slot_enumerate_next hTy F.entry_enumerate_next ?_ (F.args_enumerate_next_1 _))))
    show wpAny _ _ (field (.ref e) 2 >>= _) _ _ _
    refine wpAny_bind (wpAny_field he rfl (x := .ref it) rfl ?_)
    refine wpAny_bind (wpAny_nextOf_tuple_end (I.ok.hd hc) hit hT (by simp; omega) fun h' x' he' hx' => ?_)
    obtain ⟨o, ho, hcc⟩ := hx'
    refine wpAny_bind (wpAny_isInstance (T := "StopIteration") (b := true) ⟨o, ho, hcc⟩ isSubtype_stop ?_)
    exact wpAny_pure ⟨rfl, I.turned (t' := s.toks) (fun b o hb q => he' b o hb q) f0 f1 f3 f4 f5⟩
  self := fun A i s Q E st h => let ⟨⟨_, he⟩, _⟩ := st; wpAny_pyIter_enum he h
def iEnumA (K : PySem.W.Frag) (ta : TA) : TI := fun σ H R => ta σ H fun vs H1 => ∃ a xs, vs = [.ref a] ∧ ((SqL K H1 a xs ∧ R (Ite K a) H1) ∨ (SqT K H1 a xs ∧ R (IteT K a) H1))
theorem pi_enumA {X : Cx} {e : Expr} {ta : TA} {p pos tpos : Pos} {elts : List Expr} {kk : Nat} (hg : Gl X "enumerate") (hm : X.mg "enumerate" = none) (ha : PA X [e] ta) (hs : starEach [e] X.env = [(false, eval e X.env)]) :
    PI X (.Tuple elts kk tpos) (.Call (.Name "enumerate" p) [e] [] pos) (iEnumA X.K ta) := by
  refine ⟨fun pins s σ H R I h => ?_⟩
  refine Call_ (ld_blt I hg hm boot_enumerate (PyProof.Rows.callWith_type1 (thn (ha.run pos pins s σ H _ I h) fun us s1 ⟨vs, H1, I1, r1, q1⟩ => ?_) hs rfl))
  obtain ⟨a, xs, ex, q⟩ := q1
  subst ex
  cases r1 with
  | cons r rr =>
    cases rr
    cases r
    rcases q with ⟨hq, q⟩ | ⟨hq, q⟩
    · obtain ⟨its, rv, p', hz⟩ := I1.list hq
      refine call_enumerate_list p'.isList fun h' he hit hsz hk => wpAny_pyIter_enum he ?_
      have I2 : Inv X pins σ H1 { s1 with heap := h' } := I1.kept (t' := s1.toks) hk
      refine ⟨s1.heap.objs.size + 1, [s1.heap.objs.size + 1, s1.heap.objs.size], _, _, H1, rfl, I2, turn_enum a (s1.heap.objs.size + 1) s1.heap.objs.size, ⟨⟨.none, he⟩, hit, Nat.succ_ne_self _⟩, fun b hb => ?_, q⟩
      have e' : b = s1.heap.objs.size + 1 ∨ b = s1.heap.objs.size := by simpa using hb
      have hle : s1.heap.objs.size ≤ b := by
        rcases e' with z | z
        · rw [z]; exact Nat.le_add_right _ _
        · rw [z]; exact Nat.le_refl _
      exact I1.fpOk hle (I1.hok.fresh hle)
    · obtain ⟨its, rv, p', hz⟩ := I1.tuple hq
      refine PLT2.call_enum_tup (show s1.heap.IsTuple a its.toArray from p') fun h' he hit hsz hk => wpAny_pyIter_enum he ?_
      have I2 : Inv X pins σ H1 { s1 with heap := h' } := I1.kept (t' := s1.toks) hk
      refine ⟨s1.heap.objs.size + 1, [s1.heap.objs.size + 1, s1.heap.objs.size], _, _, H1, rfl, I2, turn_enumT a (s1.heap.objs.size + 1) s1.heap.objs.size, ⟨⟨.none, he⟩, hit, Nat.succ_ne_self _⟩, fun b hb => ?_, q⟩
      have e' : b = s1.heap.objs.size + 1 ∨ b = s1.heap.objs.size := by simpa using hb
      have hle : s1.heap.objs.size ≤ b := by
        rcases e' with z | z
        · rw [z]; exact Nat.le_add_right _ _
        · rw [z]; exact Nat.le_refl _
      exact I1.fpOk hle (I1.hok.fresh hle)
theorem walk_enumT {K : PySem.W.Frag} {a : Addr} {xs : List V} : Walk (IteT K a) xs.length (fun H => SqT K H a xs) (YPair (fun i => some (.int (i : Nat))) (fun i => xs[i]?)) := by
  refine ⟨fun i _ hi q => ⟨xs, xs[i], q, by simp [hi]⟩, fun _ q => ⟨xs, q, Nat.le_refl _⟩, fun i H v H' _ q y => ?_⟩
  obtain ⟨T, x, h1, h2, h3, h4⟩ := y
  exact ⟨T, .int (i : Nat), x, h1, h2, h3, rfl, h4 xs q⟩
section
variable {X : Cx} {C : Fx} {W : WX} {e : Expr} {pos : Pos} {fa : Stt → Res (List PV)}
def iEnumQ (fa : Stt → Res (List PV)) : Stt → Res (List PV) := fun s => (fa s).bind fun p s1 => match p with
  | [.lst l] => .ok (enumP l) s1
  | [.tup l] => .ok (enumP l) s1
  | [.scr l] => .ok (enumP l) s1
  | _ => .stuck
theorem di_enumQ {p tpos : Pos} {elts : List Expr} {kk : Nat} (hK : X.K = C.K) (hg : Gl X "enumerate") (hm : X.mg "enumerate" = none) (ha : DA X C W [e] fa) (hs : starEach [e] X.env = [(false, eval e X.env)] := by rfl) :
    DI X C W (.Tuple elts kk tpos) (.Call (.Name "enumerate" p) [e] [] pos) (iEnumQ fa) := by
  obtain ⟨te, pe, qe⟩ := ha.pr
  refine ⟨_, pi_enumA hg hm pe hs, fun F A H σ s Q o p => ?_⟩
  refine qe F A H σ s _ o (p.seq fun l s1 v F1 A1 H1 _ o1 st1 r1 p1 => ?_)
  have fin : ∀ (b : Addr) (xs : List V) (l : List PV), (∀ H2, Same F1 H2 → SqL X.K H2 b xs) → Rps C F1 xs l → Post C W (RI C) F1 A1 H1 σ (.ok (enumP l) s1) Q → Q (Ite X.K b) H1 := fun b xs l hS hr pp => by
    refine Post.now o1 pp ⟨fun H => SqL X.K H b xs, _, ?_, hS, enum_ok hr⟩
    rw [enumP_len, ← hr.length]
    exact walk_enum
  have finT : ∀ (b : Addr) (xs : List V) (l : List PV), (∀ H2, Same F1 H2 → SqT X.K H2 b xs) → Rps C F1 xs l → Post C W (RI C) F1 A1 H1 σ (.ok (enumP l) s1) Q → Q (IteT X.K b) H1 := fun b xs l hS hr pp => by
    refine Post.now o1 pp ⟨fun H => SqT X.K H b xs, _, ?_, hS, enum_ok hr⟩
    rw [enumP_len, ← hr.length]
    exact walk_enumT
  unfold iEnumQ at p
  split at p1
  · obtain ⟨u, rfl, h⟩ := rps1 r1
    cases h with
    | @lst b xs l h1 h2 => exact ⟨b, xs, rfl, .inl ⟨.of (o1.sub _ _ h1), fin b xs _ (fun H2 sm => .of (sm _ _ h1)) h2 p1⟩⟩
  · obtain ⟨u, rfl, h⟩ := rps1 r1
    cases h with
    | @tup b xs l h1 h2 => exact ⟨b, xs, rfl, .inr ⟨by rw [hK]; exact sqT_mono o1.sub h1, finT b xs _ (fun H2 sm => by rw [hK]; exact sqT_mono sm h1) h2 p1⟩⟩
  · obtain ⟨u, rfl, h⟩ := rps1 r1
    cases h with
    | @scr b xs l h1 h2 => exact ⟨b, xs, rfl, .inl ⟨by rw [hK]; exact o1.sub.seq h1, fin b xs _ (fun H2 sm => by rw [hK]; exact sm.seq h1) h2 p1⟩⟩
  · exact p1.elim
end
end PL

/-! PL34: a list of lists that grow. -/
namespace PL
open PySem PySem.Spec PyProof.Rows L2
section
variable {C : Fx} {F H : Hp}
theorem Lls.len : ∀ {as : List Addr} {ls : List (List PV)}, Lls C F H as ls → as.length = ls.length
  | [], [], _ => rfl
  | a :: as, l :: ls, ⟨_, h⟩ => by rw [List.length_cons, List.length_cons, Lls.len h]
  | [], _ :: _, h => h.elim
  | _ :: _, [], h => h.elim
theorem Lls.get : ∀ {as : List Addr} {ls : List (List PV)} {i : Nat} {l : List PV}, Lls C F H as ls → ls[i]? = some l → ∃ a xs, as[i]? = some a ∧ H a = some (.lst xs) ∧ Rps C F xs l
  | [], [], _, _, _, e => by simp at e
  | a :: as, l :: ls, 0, _, ⟨⟨xs, h1, h2⟩, _⟩, e => by simp at e; subst e; exact ⟨a, xs, rfl, h1, h2⟩
  | a :: as, l :: ls, i + 1, _, ⟨_, h⟩, e => by
    obtain ⟨b, xs, h1, h2⟩ := Lls.get (i := i) h (by simpa using e)
    exact ⟨b, xs, by simpa using h1, h2⟩
  | [], _ :: _, _, _, h, _ => h.elim
  | _ :: _, [], _, _, h, _ => h.elim
theorem Lls.set {a : Addr} {ys : List V} {l2 : List PV} (r : Rps C F ys l2) : ∀ {as : List Addr} {ls : List (List PV)} {i : Nat}, as.Nodup → Lls C F H as ls → as[i]? = some a → Lls C F (upd H a (.lst ys)) as (ls.set i l2)
  | [], [], _, _, _, e => by simp at e
  | b :: as, l :: ls, 0, nd, ⟨⟨xs, h1, h2⟩, h⟩, e => by
    simp at e; subst e
    refine ⟨⟨ys, upd_same, r⟩, h.keep (fun _ _ z => z) fun c o hc ho => ?_⟩
    rw [upd_ne (show c ≠ b from fun z => (List.nodup_cons.mp nd).1 (z ▸ hc))]; exact ho
  | b :: as, l :: ls, i + 1, nd, ⟨⟨xs, h1, h2⟩, h⟩, e => by
    have e : as[i]? = some a := by simpa using e
    have hne : b ≠ a := fun z => (List.nodup_cons.mp nd).1 (by rw [z]; exact List.mem_of_getElem? e)
    exact ⟨⟨xs, by rw [upd_ne hne]; exact h1, h2⟩, Lls.set r (List.nodup_cons.mp nd).2 h e⟩
  | [], _ :: _, _, _, h, _ => h.elim
  | _ :: _, [], _, _, h, _ => h.elim
end

/-! ### a list of lists is a plain value from now on -/
/-- all addresses of a fresh object are known from now on -/
theorem OkF.grow {C : Fx} {F F' H H' : Hp} {A A' : Nat → List Addr} {σ : L2.St} {s : Stt} {fp : List Addr} (o : OkF C F' A' H' σ s) (st : Step C F A H F' A' H')
    (hf : ∀ b, b ∈ fp → F' b = none ∧ ¬ OwnA A' b ∧ ¬ Bor C b ∧ (H b = none ∨ OwnA A b)) :
    ∃ F2, OkF C F2 A' H' σ s ∧ Step C F A H F2 A' H' ∧ Same F' F2 ∧ ∀ b, b ∈ fp → F2 b = H' b := by
  refine ⟨fun b => if b ∈ fp then H' b else F' b, ?_, ?_, ?_, fun b hb => if_pos hb⟩
  · have sF : Same F' (fun b => if b ∈ fp then H' b else F' b) := fun b u e => by
      show (if b ∈ fp then H' b else F' b) = some u
      split
      · rename_i hb; rw [(hf b hb).1] at e; cases e
      · exact e
    refine ⟨o.len, fun b u e => ?_, fun i v e => ?_, fun i m e => ?_, o.nb, o.lent, fun q m e => ?_, fun i b hb => ?_, o.dis, fun q b hq hb => ?_, o.disB⟩
    · have e : (if b ∈ fp then H' b else F' b) = some u := e
      split at e
      · exact e
      · exact o.sub b u e
    · obtain ⟨u, h1, h2⟩ := o.val i v e
      exact ⟨u, h1, h2.mono sF⟩
    · obtain ⟨q, h1, h2⟩ := o.own i m e
      exact ⟨q, h1, h2.keep sF fun b x _ h => h⟩
    · exact (o.bor q m e).keep sF fun b x _ h => h
    · obtain ⟨h1, h2⟩ := o.free i b hb
      have hne : b ∉ fp := fun z => (hf b z).2.1 ⟨i, hb⟩
      exact ⟨by show (if b ∈ fp then H' b else F' b) = none; rw [if_neg hne]; exact h1, h2⟩
    · obtain ⟨h1, h2⟩ := o.freeB q b hq hb
      have hne : b ∉ fp := fun z => (hf b z).2.2.1 ⟨q, hq, hb⟩
      exact ⟨by show (if b ∈ fp then H' b else F' b) = none; rw [if_neg hne]; exact h1, h2⟩
  · have sF : Same F' (fun b => if b ∈ fp then H' b else F' b) := fun b u e => by
      show (if b ∈ fp then H' b else F' b) = some u
      split
      · rename_i hb; rw [(hf b hb).1] at e; cases e
      · exact e
    refine ⟨st.s1.trans sF, fun b hb => ?_, st.s3, st.s4, st.s5⟩
    have hb : (if b ∈ fp then H' b else F' b) ≠ none := hb
    split at hb
    · rename_i hm
      rcases (hf b hm).2.2.2 with z | z
      · exact .inr (.inl z)
      · exact .inr (.inr z)
    · exact st.s2 b hb
  · intro b u e
    show (if b ∈ fp then H' b else F' b) = some u
    split
    · rename_i hb; rw [(hf b hb).1] at e; cases e
    · exact e
theorem Lls.plain {C : Fx} {F F2 H : Hp} (e : Same F F2) : ∀ {as : List Addr} {ls : List (List PV)}, Lls C F H as ls → (∀ b, b ∈ as → F2 b = H b) → Rps C F2 (as.map V.ref) (ls.map PV.lst)
  | [], [], _, _ => .nil
  | a :: as, l :: ls, ⟨⟨xs, h1, h2⟩, h⟩, k => .cons (.lst (by rw [k a List.mem_cons_self]; exact h1) (h2.mono e)) (Lls.plain e h fun b hb => k b (List.mem_cons_of_mem _ hb))
  | [], _ :: _, h, _ => h.elim
  | _ :: _, [], h, _ => h.elim
theorem OkF.freezeL {C : Fx} {F F' H H' : Hp} {A A' : Nat → List Addr} {σ : L2.St} {s : Stt} {p : Addr} {l : List (List PV)} (o : OkF C F' A' H' σ s) (st : Step C F A H F' A' H') (f : Fresh C F A H F' A' H' p (.lls l)) :
    ∃ F2, OkF C F2 A' H' σ s ∧ Step C F A H F2 A' H' ∧ Rp C F2 (.ref p) (.lst (l.map PV.lst)) := by
  obtain ⟨fp, ⟨as, rfl, n, nd, h1, h2⟩, hf⟩ := f
  obtain ⟨F2, o2, st2, sm, k⟩ := o.grow st hf
  exact ⟨F2, o2, st2, .lst (by rw [k p List.mem_cons_self]; exact h1) (h2.plain sm fun b hb => k b (List.mem_cons_of_mem _ hb))⟩
section
variable {X : Cx} {C : Fx} {W : WX} {sts : List Stmt} {g : Stt → Fl}
def gFrzL (i : Nat) : Stt → Fl := fun s => match s.ro[i]? with
  | some (some (.own (.lls l))) => .nx (setV i (.lst (l.map PV.lst)) s)
  | _ => .stuck
theorem OkF.frzL {F H : Hp} {A : Nat → List Addr} {σ : L2.St} {s : Stt} {i : Nat} {l : List (List PV)} (o : OkF C F A H σ s) (e : s.ro[i]? = some (some (SV.own (.lls l)))) :
    ∃ F' A', OkF C F' A' H σ (PL.setV i (PV.lst (l.map PV.lst)) s) ∧ Step C F A H F' A' H := by
  obtain ⟨p, h1, o2, st2, fr⟩ := o.mv e
  obtain ⟨F2, o3, st3, r3⟩ := o2.freezeL st2 fr
  obtain ⟨o4, st4⟩ := o3.setV (i := i) r3
  rw [set_get h1] at o4
  have es : PL.setV i (PV.lst (l.map PV.lst)) ⟨s.ro.set i none, s.mu⟩ = PL.setV i (PV.lst (l.map PV.lst)) s := by
    unfold PL.setV
    simp only [List.set_set]
  rw [es] at o4
  exact ⟨F2, _, o4, st3.trans st4⟩
theorem dss_frzL (i : Nat) (h : DSs X C W sts g) : DSs X C W sts (gSeq (gFrzL i) g) := by
  obtain ⟨ts, ps, qs⟩ := h.pr
  refine ⟨ts, ps, fun F A H σ s D o p => ?_⟩
  unfold gSeq gFrzL at p
  cases e : s.ro[i]? with
  | none => simp only [e] at p; exact p.elim
  | some x =>
    cases x with
    | none => simp only [e] at p; exact p.elim
    | some y =>
      cases y with
      | own m =>
        cases m with
        | lls l =>
          simp only [e] at p
          obtain ⟨F', A', o2, st2⟩ := o.frzL e
          exact qs F' A' H σ _ D o2 (p.after st2)
        | _ => simp only [e] at p; exact p.elim
      | _ => simp only [e] at p; exact p.elim
end

/-! ### x[b].append(y), y a name -/
section
variable {X : Cx} {C : Fx} {W : WX} {b : Expr} {pos : Pos} {fb : Stt → Res PV}
theorem OkF.updLl {F H : Hp} {A : Nat → List Addr} {σ : L2.St} {s : Stt} (o : OkF C F A H σ s) {k : MKey} {ls : List (List PV)} {as : List Addr} {j : Nat} {a : Addr} {l2 : List PV} {ys : List V} (hk : getK s k = some (.lls ls))
    (hf : fpr A C k = adr σ C k :: as) (n : adr σ C k ∉ as) (nd : as.Nodup) (hp : H (adr σ C k) = some (.lst (as.map V.ref))) (hl : Lls C F H as ls) (ha : as[j]? = some a) (r : Rps C F ys l2) :
    OkF C F A (L2.upd H a (.lst ys)) σ (setK s k (.lls (ls.set j l2))) ∧ Step C F A H F A (L2.upd H a (.lst ys)) := by
  have ma : a ∈ as := List.mem_of_getElem? ha
  refine o.upd hk (fun b hb => upd_ne (fun e => hb (by rw [hf, e]; exact List.mem_cons_of_mem _ ma))) (fun b hb => ?_) ⟨as, hf, n, nd, ?_, hl.set r nd ha⟩
  · by_cases e : b = a
    · subst e; rw [upd_same]; simp
    · rw [upd_ne e]
      rw [hf] at hb
      rcases List.mem_cons.mp hb with z | z
      · subst z; rw [hp]; simp
      · exact hl.there b z
  · rw [upd_ne (show adr σ C k ≠ a from fun z => n (z ▸ ma))]; exact hp
def gAppN (i : Nat) (fb : Stt → Res PV) (j : Nat) : Stt → Fl := fun s => (getM s i).elim .stuck fun _ => (fb s).fl fun q s1 => match getM s1 i, q, s1.ro[j]? with
  | some (k, .lls ls), .int n, some (some (.val v)) => match ixN ls.length n with
    | some m => match ls[m]? with
      | some l => if l.length < 16777216 then .nx (setK s1 k (.lls (ls.set m (l ++ [v])))) else .stuck
      | none => .stuck
    | none => .stuck
  | _, _, _ => .stuck
theorem ds_appN (i j : Nat) {x y : Str} {p p2 p3 p4 p5 : Pos} (hb : DV X C W b fb) (hix : PlainIx b) (hN : X.N[i]? = some x := by rfl) (hvis : Vis X.env.scope x := by first | exact Or.inl rfl | exact Or.inr (Or.inl rfl) | exact Or.inr (Or.inr rfl)) (hd : (x == ("__debug__" : Str)) = false := by decide)
    (hcd : (x == ("__classdict__" : Str)) = false := by decide) (hNy : X.N[j]? = some y := by rfl) (hvisy : Vis X.env.scope y := by first | exact Or.inl rfl | exact Or.inr (Or.inl rfl) | exact Or.inr (Or.inr rfl)) (hdy : (y == ("__debug__" : Str)) = false := by decide)
    (hcdy : (y == ("__classdict__" : Str)) = false := by decide)
    (hs : swapsWith (.Call (.Attribute (.Subscript (.Name x p) b p4) "append" p2) [.Name y p5] [] p3) none pos.line X.env = pure false := by rfl)
    (hbase : attributeBase (.Subscript (.Name x p) b p4) "append" X.env (eval (.Subscript (.Name x p) b p4) X.env) = eval (.Subscript (.Name x p) b p4) X.env := by rfl)
    (hfew : ((backTo p3 (starEach [(.Name y p5 : Expr)] X.env)).all (fun x => !x.1) && (backToKw p3 (keywordEach [] X.env)).all (fun x => x.1.isSome)
      && decide (([(.Name y p5 : Expr)] : List Expr).length + ([] : List Keyword).length + (if ([] : List Keyword).isEmpty then 0 else 1) < 30)) = true := by rfl)
    (hline : (p2.endLine == p3.line) = true := by rfl) (hst : starEach [(.Name y p5 : Expr)] X.env = (false, eval (.Name y p5) X.env) :: starEach [] X.env := by rfl) (hplain : (backTo p3 (starEach [] X.env)).any (·.1) = false := by rfl) :
    DS X C W (.Expr (.Call (.Attribute (.Subscript (.Name x p) b p4) "append" p2) [.Name y p5] [] p3) pos) (gAppN i fb j) := by
  obtain ⟨tb, pb, qb⟩ := hb.pr
  refine ⟨_, ps_expr (pe_bm PySem.F.plainAttrs_list PySem.F.slot_list_append PySem.F.type_list_append mt_append (pe_ix ix_list (pe_var (i := i) hN hvis hd hcd) pb hix) (pa_cons (pe_var (i := j) hNy hvisy hdy hcdy) pa_nil hst) hbase hfew hline hst hplain) hs, fun F A H σ s D o pp => ?_⟩
  cases e0 : getM s i with
  | none => unfold gAppN at pp; rw [e0] at pp; exact pp.elim
  | some km =>
    obtain ⟨k0, m0⟩ := km
    unfold gAppN at pp
    rw [e0] at pp
    simp only [Option.elim_some] at pp
    obtain ⟨_, g0, _⟩ := mut_at o e0
    refine ⟨_, g0, ?_⟩
    refine qb F A H σ s _ o (PostS.seq pp fun q s1 v F1 A1 H1 _ o1 st1 r1 p1 => ?_)
    split at p1
    · rename_i k ls n v2 e1 ev _
      cases hm : ixN ls.length n with
      | none => rw [hm] at p1; exact p1.elim
      | some m =>
        simp only [hm] at p1
        cases hl : ls[m]? with
        | none => rw [hl] at p1; exact p1.elim
        | some l =>
          simp only [hl] at p1
          split at p1
          · rename_i hlen
            obtain ⟨g1, g2, as, hf, nn, nd, hp, hls⟩ := mut_at o1 e1
            obtain ⟨a, xs, h1, h2, h3⟩ := hls.get hl
            obtain ⟨w, hw, rw_⟩ := o1.val j v2 ev
            rw [g0] at g2
            have ea : adr σ C k0 = adr σ C k := V.ref.inj (Option.some.inj (Option.some.inj g2))
            cases r1
            refine ⟨_, _, _, .ref a, rfl, rfl, by rw [ea]; exact .of hp, ?_, .inl ⟨rfl, _, SqL.of h2⟩, ?_⟩
            · unfold L2.atI
              rw [List.length_map, hls.len, hm]
              show (as.map V.ref)[m]? = some (.ref a)
              rw [List.getElem?_map, h1]; rfl
            · refine ⟨w, hw, a, xs, w, rfl, rfl, h2, by rw [h3.length]; exact hlen, ?_⟩
              obtain ⟨o3, st3⟩ := o1.updLl g1 hf nn nd hp hls h1 (Rps.append h3 (.cons rw_ .nil))
              exact p1 _ _ _ _ o3 st3
          · exact p1.elim
    · exact p1.elim
end
/-! ### [[] for ..] -/
def compN (vs : List Nat) (a : PV → Stt → Option Stt) : List PV → List (List PV) → Stt → Res (List (List PV))
  | [], acc, s => .ok acc s
  | p :: r, acc, s => match a p s with
    | none => .stuck
    | some s1 => if acc.length < 16777216 then compN vs a r (acc ++ [[]]) (wipeS vs s1) else .stuck
theorem compN_cons (vs : List Nat) (a : PV → Stt → Option Stt) (p : PV) (r : List PV) (acc : List (List PV)) (s s1 : Stt) (h : a p s = some s1) :
    compN vs a (p :: r) acc s = if acc.length < 16777216 then compN vs a r (acc ++ [[]]) (wipeS vs s1) else .stuck := by
  show (match a p s with | none => _ | some s1 => _) = _
  rw [h]
def oCompN (vs : List Nat) (fi : Stt → Res (List PV)) (a : PV → Stt → Option Stt) : Stt → Res MO := fun s => (fi s).bind fun l s1 => (noEx (compN vs a l [] (wipeS vs s1))).bind fun acc s2 => .ok (.lls acc) (backS vs s1 s2)
section
variable {C : Fx} {W : WX}
theorem lcN_den {ti : TI} {tg : TG} {tt : TT} {te : TE} {vs : List Nat} {fi : Stt → Res (List PV)} {a : PV → Stt → Option Stt}
    (qi : ∀ F A H σ s (Q : It → Hp → Prop), OkF C F A H σ s → Post C W (RI C) F A H σ (fi s) Q → ti σ H Q)
    (qg : ∀ F A H σ s x p s' Q, OkF C F A H σ s → Rp C F x p → a p s = some s' → (∀ σ' F' A' H', OkF C F' A' H' σ' s' → Step C F A H F' A' H' → SameOut (fun i => decide (i ∈ vs)) σ σ' → Q σ' H') → tg x σ H Q)
    (qt : ∀ σ H (Q : Bool → Hp → Prop), Q true H → tt σ H Q)
    (qe : ∀ σ H (Q : VK), (∀ q, H q = none → Q (.ref q) (upd H q (.lst []))) → te σ H Q) :
    ∀ F A H σ s Q, OkF C F A H σ s → PostO C W F A H σ (oCompN vs fi a s) Q → tLc ti tg tt te vs σ H Q := by
  intro F A H σ s Q o p
  unfold oCompN at p
  refine qi F A H σ s _ o (PostO.seq p fun l s1 J F1 A1 H1 _ o1 st1 r1 p1 => ?_)
  obtain ⟨G, Y, w, hG, hY⟩ := r1
  intro D hD
  have hF1 : F1 D = none := o1.sub.free hD
  have nA1 : ¬ OwnA A1 D := fun ⟨i, z⟩ => (o1.free i D z).2 hD
  have nB1 : ¬ Bor C D := fun ⟨q, hq, z⟩ => by
    have hm : q < s1.mu.length := by rw [o1.nb]; exact hq
    exact (o1.bor q s1.mu[q] (List.getElem?_eq_getElem hm)).there D z hD
  obtain ⟨R, hR⟩ : ∃ R, noEx (compN vs a l [] (wipeS vs s1)) = R := ⟨_, rfl⟩
  rw [hR] at p1
  have key : ∃ acc0 s0, compN vs a l [] (wipeS vs s1) = .ok acc0 s0 ∧ PostO C W F1 A1 H1 σ (.ok (.lls acc0) (backS vs s1 s0)) Q := by
    cases e : compN vs a l [] (wipeS vs s1) with
    | ok acc0 s0 => rw [e] at hR; subst hR; exact ⟨acc0, s0, rfl, p1⟩
    | ex c v s0 => rw [e] at hR; subst hR; exact p1.elim
    | stuck => rw [e] at hR; subst hR; exact p1.elim
  obtain ⟨acc0, s0, hc0, pf⟩ := key
  refine lc_it w (fun i H2 => ∃ F2 A2 s2, ∃ acc : List (List PV), ∃ as : List Addr, OkF C F2 A2 H2 (L2.wipe σ vs) s2 ∧ Step C F1 A1 H1 F2 A2 H2 ∧ Aside C F2 A2 H2 D (.lst (as.map V.ref)) ∧ as.length = acc.length ∧ (∀ l, l ∈ acc → l = []) ∧ (∀ q, q ∈ as → H1 q = none ∧ q ≠ D ∧ Aside C F2 A2 H2 q (.lst [])) ∧ as.Nodup ∧ compN vs a (l.drop i) acc s2 = .ok acc0 s0) ?_ (fun i H2 _ ⟨F2, A2, s2, acc, xs, o2, st2, _⟩ => hG H2 (st2.s1.trans o2.sub)) ?_ ?_
  · refine ⟨F1, A1, wipeS vs s1, [], [], ?_, ?_, ⟨hF1, nA1, nB1, upd_same⟩, rfl, (fun l h => by cases h), (fun q h => by cases h), List.nodup_nil, by simpa using hc0⟩
    · have := (o1.fresh (u := .lst []) (m := .lst []) hD ⟨rfl, [], upd_same, .nil⟩).1
      exact this.wipe vs
    · exact (Step.refl).other hD
  · rintro i x H2 H3 hi ⟨F2, A2, s2, acc, as, o2, st2, as2, la, lz, lq, nd, hc⟩ y
    have hl : l[i]? = some l[i] := List.getElem?_eq_getElem hi
    obtain ⟨F3, o3, st3, r3⟩ := hY i F2 A2 H2 _ s2 x H3 l[i] o2 st2.s1 y hl
    rw [List.drop_eq_getElem_cons hi] at hc
    cases ea : a l[i] s2 with
    | none =>
      have z : compN vs a (l[i] :: l.drop (i + 1)) acc s2 = .stuck := by
        show (match a l[i] s2 with | none => _ | some s1 => _) = _
        rw [ea]
      rw [z] at hc; cases hc
    | some s3 =>
      rw [compN_cons _ _ _ _ _ _ _ ea] at hc
      refine qg F3 A2 H3 _ s2 x l[i] s3 _ o3 r3 ea fun σ4 F4 A4 H4 o4 st4 so => ?_
      have ww : L2.wipe σ4 vs = L2.wipe σ vs := by
        have e1 := so.wipe
        have e2 : L2.wipe (L2.wipe σ vs) vs = L2.wipe σ vs := by
          refine SameOut.wipe ⟨L2.wipe_length _ _, fun i h => wipe_out' (of_decide_eq_false h)⟩
        exact e1.trans e2
      refine ⟨ww, ?_⟩
      refine qt σ4 H4 _ ?_
      refine iteT ?_
      refine qe σ4 H4 _ fun q hq => ?_
      by_cases hlen : acc.length < 16777216
      · rw [if_pos hlen] at hc
        have sA := (st2.trans st3).trans st4
        have as4 := (as2.step st3).step st4
        have lq4 : ∀ b, b ∈ as → H1 b = none ∧ b ≠ D ∧ Aside C F4 A4 H4 b (.lst []) := fun b hb => ⟨(lq b hb).1, (lq b hb).2.1, ((lq b hb).2.2.step st3).step st4⟩
        have qD : q ≠ D := fun e => by rw [e, as4.a4] at hq; cases hq
        have q1 : H1 q = none := by
          cases e : H1 q with
          | none => rfl
          | some u => exact absurd hq (sA.s5 q (by rw [e]; simp))
        have qF : F4 q = none := o4.sub.free hq
        have qA : ¬ OwnA A4 q := fun ⟨i, z⟩ => (o4.free i q z).2 hq
        have qB : ¬ Bor C q := fun ⟨k, hk, z⟩ => by
          have hm : k < s3.mu.length := by rw [o4.nb]; exact hk
          exact (o4.bor k s3.mu[k] (List.getElem?_eq_getElem hm)).there q z hq
        obtain ⟨o5, st5, _⟩ := o4.fresh (u := .lst []) (m := .lst []) hq ⟨rfl, [], upd_same, .nil⟩
        have as5 := as4.step st5
        have lq5 : ∀ b, b ∈ as → H1 b = none ∧ b ≠ D ∧ Aside C F4 A4 (upd H4 q (.lst [])) b (.lst []) := fun b hb => ⟨(lq4 b hb).1, (lq4 b hb).2.1, (lq4 b hb).2.2.step st5⟩
        have qn : q ∉ as := fun z => by have := (lq4 q z).2.2.a4; rw [hq] at this; cases this
        refine ⟨as.map V.ref, as5.a4, by rw [List.length_map, la, sizeLine_eq]; exact hlen, F4, A4, wipeS vs s3, acc ++ [[]], as ++ [q], ?_, (sA.trans st5).other hD, ⟨as5.a1, as5.a2, as5.a3, by rw [List.map_append]; exact upd_same⟩, by rw [List.length_append, List.length_append, la]; rfl, fun l h => ?_, fun b hb => ?_, ?_, hc⟩
        · rw [← ww]
          exact (o5.other as5.a1 as5.a2 as5.a3 (by rw [as5.a4]; simp)).wipe vs
        · rcases List.mem_append.mp h with z | z
          · exact lz l z
          · exact List.mem_singleton.mp z
        · rcases List.mem_append.mp hb with z | z
          · obtain ⟨z1, z2, z3⟩ := lq5 b z
            exact ⟨z1, z2, z3.a1, z3.a2, z3.a3, by rw [upd_ne z2]; exact z3.a4⟩
          · rw [List.mem_singleton] at z
            subst z
            exact ⟨q1, qD, qF, qA, qB, by rw [upd_ne qD]; exact upd_same⟩
        · exact List.nodup_append.mpr ⟨nd, by simp, fun x hx y hy e => by rw [List.mem_singleton] at hy; subst hy; subst e; exact qn hx⟩
      · rw [if_neg hlen] at hc; cases hc
  · rintro H2 ⟨F2, A2, s2, acc, as, o2, st2, as2, la, lz, lq, nd, hc⟩
    rw [List.drop_of_length_le (Nat.le_refl _)] at hc
    cases hc
    refine pf D F2 A2 H2 (o1.back st2 o2) st2 ⟨D :: as, ⟨as, rfl, fun z => (lq D z).2.1 rfl, nd, as2.a4, ?_⟩, fun b hb => ?_⟩
    · have : ∀ (us : List Addr) (ms : List (List PV)), us.length = ms.length → (∀ l, l ∈ ms → l = []) → (∀ q, q ∈ us → H2 q = some (.lst [])) → Lls C F2 H2 us ms := by
        intro us
        induction us with
        | nil => intro ms h _ _; cases ms with
          | nil => trivial
          | cons _ _ => simp at h
        | cons u us ih => intro ms h h2 h3; cases ms with
          | nil => simp at h
          | cons m ms =>
            refine ⟨⟨[], h3 u List.mem_cons_self, ?_⟩, ih ms (by simpa using h) (fun l hl => h2 l (List.mem_cons_of_mem _ hl)) fun q hq => h3 q (List.mem_cons_of_mem _ hq)⟩
            rw [h2 m List.mem_cons_self]; exact .nil
      exact this as _ la lz fun q hq => (lq q hq).2.2.a4
    · rcases List.mem_cons.mp hb with z | z
      · subst z; exact ⟨as2.a1, as2.a2, as2.a3, .inl hD⟩
      · obtain ⟨z1, z2, z3⟩ := lq b z
        exact ⟨z3.a1, z3.a2, z3.a3, .inl z1⟩
end
section
variable {X : Cx} {C : Fx} {W : WX} {tg iter : Expr} {scope : Scope} {own : List (Str × Nat)} {pos : Pos} {fi : Stt → Res (List PV)} {a : PV → Stt → Option Stt}
/-- name = [[] for ..] on one line, the name a local: the slot owns the lists -/
theorem ds_lcN {i : Nat} {y : Str} {py pe spos : Pos} (hc : X.calm = true) (hN : X.N.Nodup) (hy : X.N[i]? = some y) (hyl : X.env.scope.names.lookup y = some .local)
    (hsw : swapsWith (.ListComp (.List [] pe) [⟨tg, iter, [], 0⟩] scope pos) (some (.Name y py)) spos.line X.env = pure true) (ok : BlkOk X.N X.env.scope scope own) (hi : DI X C W tg iter fi)
    (hg : ∀ (s : Shared) (H : Hp) (L : Addr) (cl : List (Str × Addr)) (fp : List Addr), DG (X.blk s H scope (compEnvC scope cl L X.env) fp) C (fun i => decide (i ∈ own.map (·.2))) tg a) (hs : ∀ x, foldedSetIterable iter X.env x = pure x := by intro _; rfl) :
    DS X C W (.Assign [.Name y py] (.ListComp (.List [] pe) [⟨tg, iter, [], 0⟩] scope pos) spos) (gAsgO i (oCompN (own.map (·.2)) fi a)) := by
  obtain ⟨ti, pi, qi⟩ := hi.pr
  refine ⟨_, ps_setLc hc hN hy hyl hsw pi ok (fun s H L cl fp => (hg s H L cl fp).c) (fun s H L cl fp => pts_nil) (fun s H L cl fp => pe_lst pa_nil) hs, fun F A H σ s D o p => ?_⟩
  refine lcN_den (C := C) (W := W) (vs := own.map (·.2)) (tg := cTG C (fun i => decide (i ∈ own.map (·.2))) a) (te := tLst tNil) qi (fun F A H σ s x p s' Q o r e k => ⟨F, A, s, p, s', o, r, e, k⟩) (fun σ H Q h => h) (fun σ H Q h => ⟨Nat.zero_le _, h⟩) F A H σ s _ o ?_
  unfold gAsgO at p
  cases hr : oCompN (own.map (·.2)) fi a s with
  | ok m s1 =>
    rw [hr] at p
    intro q F' A' H' o1 st1 fr
    simp only [Res.fl] at p
    split at p
    · rename_i hl
      obtain ⟨A2, o2, st2⟩ := o1.setO st1 fr hl
      exact p _ F' A2 H' o2 st2
    · exact p.elim
  | ex c v s1 => rw [hr] at p; exact fun d F' A' H' => p d σ F' A' H'
  | stuck => rw [hr] at p; exact p
end
end PL

/-! PLT: the law's own end. -/
namespace PL
open PySem PySem.Spec PyProof.Rows L2
/-- the script as the law meets it -/
def scrOf (ns : List Int) : PV := .scr (ns.map PV.int)
theorem law_sp {K : PySem.W.Frag} {cl : Str → Addr} {m : List SV → List MO → FRes} (hm : ∀ ns : List Int, ns.length ≤ 63 → m [.val (scrOf ns)] [] = .ok (.bl true) []) {H : Hp} {a : Addr} {ns : List Int} (hl : ns.length ≤ 63) (hS : SqL K H a (ns.map V.int)) :
    spOf K cl 1 m [.ref a] H (fun v _ => v = .bl true) fun _ _ _ => False := by
  refine ⟨rfl, ⟨K, cl, 0, fun _ => 0, fun _ => []⟩, H, [.val (scrOf ns)], [], rfl, rfl, ?_, .val (.scr hS (Rps.of_ints ns)) .nil, ?_⟩
  · exact ⟨rfl, fun _ _ h => h, fun i v e => by simp at e, fun i m e => by simp at e, rfl, fun i k e => by simp at e, fun k m e => by simp at e, fun i b h => absurd h (by simp [noA]), fun _ _ _ h _ => absurd h (by simp [noA]), fun k b h _ => absurd h (Nat.not_lt_zero k), fun k j b h _ _ _ => absurd h (Nat.not_lt_zero k)⟩
  · rw [hm ns hl]
    intro u F' H' o st r
    cases r
    rfl
theorem no_cx {P : Program} {w : World} {H : Hp} {s : Shared} {e : Value} {s' : Shared} (h : L2.CX P w [] H s (fun _ _ _ => False) e s') : False := by
  obtain ⟨_, _, _, _, _, _, _, _, _, _, _, _, z⟩ := h
  exact z
end PL

/-! PLM: laws about the mirrors' words: loops, comprehensions, data shown and compared. -/
namespace PL
open PySem PySem.Spec PyProof.Rows L2

/-! ### loops -/
theorem forL_nil (a : PV → Stt → Option Stt) (b : Stt → Fl) (s : Stt) : forL a b [] s = .nx s := rfl
/-- a loop that comes to its end: I by the turn -/
theorem forL_inv {a : PV → Stt → Option Stt} {b : Stt → Fl} (I : Nat → Stt → Prop) : ∀ (l : List PV) (k : Nat) (s : Stt), I k s →
    (∀ i p s, l[i]? = some p → I (k + i) s → ∃ s1, a p s = some s1 ∧ ∃ s2, (b s1 = .nx s2 ∨ b s1 = .ct s2) ∧ I (k + i + 1) s2) → ∃ s2, forL a b l s = .nx s2 ∧ I (k + l.length) s2
  | [], k, s, h0, _ => ⟨s, rfl, h0⟩
  | p :: r, k, s, h0, h => by
    obtain ⟨s1, e1, s2, e2, h2⟩ := h 0 p s rfl h0
    have ih := forL_inv I r (k + 1) s2 h2 fun i q s' hq hI => by
      obtain ⟨t1, g1, t2, g2, g3⟩ := h (i + 1) q s' (by simpa using hq) (by rw [show k + (i + 1) = k + 1 + i by omega]; exact hI)
      exact ⟨t1, g1, t2, g2, by rw [show k + 1 + i + 1 = k + (i + 1) + 1 by omega]; exact g3⟩
    obtain ⟨s3, e3, h3⟩ := ih
    refine ⟨s3, ?_, by rw [List.length_cons, show k + (r.length + 1) = k + 1 + r.length by omega]; exact h3⟩
    rw [forL_cons _ _ _ _ _ _ e1]
    rcases e2 with e2 | e2 <;> rw [e2] <;> exact e3
/-- the same without turns -/
theorem forL_all {a : PV → Stt → Option Stt} {b : Stt → Fl} (I : Stt → Prop) {l : List PV} {s : Stt} (h0 : I s)
    (h : ∀ p s, p ∈ l → I s → ∃ s1, a p s = some s1 ∧ ∃ s2, (b s1 = .nx s2 ∨ b s1 = .ct s2) ∧ I s2) : ∃ s2, forL a b l s = .nx s2 ∧ I s2 :=
  forL_inv (fun _ => I) l 0 s h0 fun i p s hp hI => h p s (List.mem_of_getElem? hp) hI
/-- a comprehension whose parts leave the state as it is -/
theorem compL_map {vs : List Nat} {a : PV → Stt → Option Stt} {ft : Stt → Res Bool} {fe : Stt → Res PV} {s : Stt} (f : PV → Option PV) : ∀ (l acc : List PV), acc.length + l.length ≤ 16777216 →
    (∀ p ∈ l, ∃ s1, a p s = some s1 ∧ ((∃ s2 y s3, ft s1 = .ok true s2 ∧ fe s2 = .ok y s3 ∧ wipeS vs s3 = s ∧ f p = some y) ∨ ∃ s2, ft s1 = .ok false s2 ∧ wipeS vs s2 = s ∧ f p = none)) →
    compL vs a ft fe l acc s = .ok (acc ++ l.filterMap f) s
  | [], acc, _, _ => by simp [compL]
  | p :: r, acc, hl, h => by
    rw [List.length_cons] at hl
    obtain ⟨s1, e1, e2⟩ := h p List.mem_cons_self
    rw [compL_cons _ _ _ _ _ _ _ _ _ e1]
    rcases e2 with ⟨s2, y, s3, e2, e3, e4, e5⟩ | ⟨s2, e2, e4, e5⟩
    · rw [e2]
      simp only [Res.bind_ok, if_true, e3]
      rw [if_pos (by omega), e4, compL_map f r (acc ++ [y]) (by rw [List.length_append, List.length_singleton]; omega) fun q hq => h q (List.mem_cons_of_mem _ hq)]
      rw [List.filterMap_cons, e5]
      simp
    · rw [e2]
      simp only [Res.bind_ok, Bool.false_eq_true, if_false]
      rw [e4, compL_map f r acc (by omega) fun q hq => h q (List.mem_cons_of_mem _ hq)]
      rw [List.filterMap_cons, e5]
/-- a comprehension that changes the state: R tells of the results so far -/
theorem compL_inv {vs : List Nat} {a : PV → Stt → Option Stt} {fe : Stt → Res PV} (R : List PV → Stt → Prop) : ∀ (l acc : List PV) (s : Stt), acc.length + l.length ≤ 16777216 → R acc s →
    (∀ p acc s, p ∈ l → R acc s → ∃ s1, a p s = some s1 ∧ ∃ y s3, fe s1 = .ok y s3 ∧ R (acc ++ [y]) (wipeS vs s3)) →
    ∃ out s2, compL vs a tYesD fe l acc s = .ok out s2 ∧ R out s2 ∧ out.length = acc.length + l.length
  | [], acc, s, _, h0, _ => ⟨acc, s, rfl, h0, by simp⟩
  | p :: r, acc, s, hl, h0, h => by
    rw [List.length_cons] at hl
    obtain ⟨s1, e1, y, s3, e3, h3⟩ := h p acc s List.mem_cons_self h0
    obtain ⟨out, s2, e, hR, hlen⟩ := compL_inv R r (acc ++ [y]) (wipeS vs s3) (by rw [List.length_append, List.length_singleton]; omega) h3 fun q ac st hq => h q ac st (List.mem_cons_of_mem _ hq)
    refine ⟨out, s2, ?_, hR, by rw [hlen, List.length_append, List.length_singleton, List.length_cons]; omega⟩
    rw [compL_cons _ _ _ _ _ _ _ _ _ e1]
    simp only [tYesD, Res.bind_ok, if_true, e3]
    rw [if_pos (by omega)]
    exact e

/-! ### data shown and compared -/
theorem join_len_le (n : Nat) : ∀ ts : List Str, (∀ t ∈ ts, t.length ≤ n) → (Str.join ", " ts).length ≤ ts.length * (n + 2)
  | [], _ => by simp [Str.join]; decide
  | [x], h => by
    have := h x List.mem_cons_self
    show x.length ≤ 1 * (n + 2)
    omega
  | x :: y :: r, h => by
    have ih := join_len_le n (y :: r) fun t ht => h t (List.mem_cons_of_mem _ ht)
    have hx := h x List.mem_cons_self
    show (x ++ (", " : Str) ++ Str.join ", " (y :: r)).length ≤ _
    have e2 : ((", " : String) : Str).length = 2 := by decide
    rw [PySem.Str.length_append, PySem.Str.length_append, e2]
    simp only [List.length_cons] at ih ⊢
    have : (r.length + 1 + 1) * (n + 2) = (r.length + 1) * (n + 2) + (n + 2) := by rw [Nat.add_mul (r.length + 1) 1, Nat.one_mul]
    omega
theorem tupleText_le (n : Nat) (ts : List Str) (h : ∀ t ∈ ts, t.length ≤ n) : (tupleText ts).length ≤ ts.length * (n + 2) + 3 := by
  unfold tupleText
  rw [PySem.Str.length_append, PySem.Str.length_append]
  have e1 : ((("(" : String) : Str)).length = 1 := by decide
  have e2 : ((if ts.length == 1 then ",)" else ")" : String) : Str).length ≤ 2 := by split <;> decide
  have := join_len_le n ts h
  omega
theorem listText_le (n : Nat) (ts : List Str) (h : ∀ t ∈ ts, t.length ≤ n) : (listText ts).length ≤ ts.length * (n + 2) + 3 := by
  rw [show listText ts = (("[" : String) : Str) ++ Str.join ", " ts ++ (("]" : String) : Str) from listText_eq_join ts]
  rw [PySem.Str.length_append, PySem.Str.length_append]
  have e1 : ((("[" : String) : Str)).length = 1 := by decide
  have e2 : ((("]" : String) : Str)).length = 1 := by decide
  have := join_len_le n ts h
  omega
abbrev SO (x : Str) : Prop := PyData.strOk x = true
theorem so_of (s : String) : SO (Str.ofString s) := by
  show PyData.strOk _ = true
  rw [Str.ofString_eq_toList]
  unfold PyData.strOk
  simp only [List.all_toArray, List.all_map, List.all_eq_true]
  intro c _
  have := c.valid
  have h2 : c.toNat < 1114112 := by
    have h3 : c.val.toNat < 0xd800 ∨ 0xdfff < c.val.toNat ∧ c.val.toNat < 0x110000 := c.valid
    show c.val.toNat < 1114112
    omega
  simpa using h2
theorem so_app {x y : Str} (hx : SO x) (hy : SO y) : SO (x ++ y) := by
  unfold SO PyData.strOk at *
  show ((x.cps ++ y.cps).all _) = true
  rw [Array.all_append, hx, hy]
  rfl
theorem so_join {sep : Str} (h0 : SO sep) : ∀ {ts : List Str}, (∀ t ∈ ts, SO t) → SO (Str.join sep ts)
  | [], _ => so_of ""
  | [x], h => h x List.mem_cons_self
  | x :: y :: r, h => so_app (so_app (h x List.mem_cons_self) h0) (so_join h0 fun t ht => h t (List.mem_cons_of_mem _ ht))
theorem so_list {ts : List Str} (h : ∀ t ∈ ts, SO t) : SO (listText ts) := by
  rw [show listText ts = (("[" : String) : Str) ++ Str.join ", " ts ++ (("]" : String) : Str) from listText_eq_join ts]
  exact so_app (so_app (so_of "[") (so_join (so_of ", ") h)) (so_of "]")
theorem so_tuple {ts : List Str} (h : ∀ t ∈ ts, SO t) : SO (tupleText ts) := by
  unfold tupleText
  exact so_app (so_app (so_of "(") (so_join (so_of ", ") h)) (so_of _)
/-- p is data: shown in at most n signs, nested at most k deep -/
structure Rk (p : PV) (n k : Nat) : Prop where
  ex : ∃ d, toD p = some d ∧ d.showable = true ∧ d.hasDict = false ∧ d.canLay0 = true ∧ d.shown.length ≤ n ∧ d.depth ≤ k ∧ SO d.shown
structure Rks (l : List PV) (n k : Nat) : Prop where
  ex : ∃ ds, toDs l = some ds ∧ PyData.showableAll ds = true ∧ PyData.hasDictAll ds = false ∧ PyData.canLayAll0 ds = true ∧ (∀ t ∈ PyData.shownAll ds, t.length ≤ n) ∧ PyData.depthAll ds ≤ k ∧ ds.length = l.length ∧ ∀ t ∈ PyData.shownAll ds, SO t
theorem Rk.mono {p : PV} {n k n' k' : Nat} (h : Rk p n k) (hn : n ≤ n') (hk : k ≤ k') : Rk p n' k' := by
  obtain ⟨d, h1, h2, h3, h4, h5, h6, h7⟩ := h.ex
  exact ⟨d, h1, h2, h3, h4, Nat.le_trans h5 hn, Nat.le_trans h6 hk, h7⟩
theorem Rks.of {n k : Nat} : ∀ {l : List PV}, (∀ p ∈ l, Rk p n k) → Rks l n k
  | [], _ => ⟨[], rfl, by simp [PyData.showableAll], by simp [PyData.hasDictAll], by simp [PyData.canLayAll0], by simp [PyData.shownAll], by simp [PyData.depthAll], rfl, by simp [PyData.shownAll]⟩
  | p :: r, h => by
    obtain ⟨d, h1, h2, h3, h4, h5, h6, h7⟩ := (h p List.mem_cons_self).ex
    obtain ⟨ds, g1, g2, g3, g4, g5, g6, g7, g8⟩ := (Rks.of (l := r) fun q hq => h q (List.mem_cons_of_mem _ hq)).ex
    refine ⟨d :: ds, ?_, ?_, ?_, ?_, ?_, ?_, by simp [g7], ?_⟩
    · unfold toDs; rw [h1, g1]
    · rw [PyData.showableAll, h2, g2]; rfl
    · rw [PyData.hasDictAll, h3, g3]; rfl
    · rw [PyData.canLayAll0, h4, g4]; rfl
    · rw [PyData.shownAll]
      intro t ht
      rcases List.mem_cons.mp ht with e | e
      · rw [e]; exact h5
      · exact g5 t e
    · rw [PyData.depthAll]
      omega
    · rw [PyData.shownAll]
      intro t ht
      rcases List.mem_cons.mp ht with e | e
      · rw [e]; exact h7
      · exact g8 t e
theorem shownAll_length : ∀ ds : List PyData, (PyData.shownAll ds).length = ds.length
  | [] => by simp [PyData.shownAll]
  | d :: r => by rw [PyData.shownAll, List.length_cons, List.length_cons, shownAll_length r]
theorem Rk.non : Rk .non 4 0 := ⟨.none, rfl, by simp [PyData.showable], by simp [PyData.hasDict], by simp [PyData.canLay0], by simp [PyData.shown]; decide, by simp [PyData.depth], by simp only [PyData.shown]; exact so_of _⟩
theorem Rk.bl (b : Bool) : Rk (.bl b) 5 0 := ⟨.bool b, rfl, by simp [PyData.showable], by simp [PyData.hasDict], by simp [PyData.canLay0], by cases b <;> simp [PyData.shown] <;> decide, by simp [PyData.depth], by cases b <;> simp only [PyData.shown] <;> exact so_of _⟩
theorem Rk.int {i : Int} (h : i.natAbs.log2 < 1920) : Rk (.int i) 1921 0 := by
  refine ⟨.int i, rfl, by simpa [PyData.showable] using h, by simp [PyData.hasDict], by simp [PyData.canLay0], ?_, by simp [PyData.depth], by simp only [PyData.shown]; exact so_of _⟩
  have := int_text_length_le (a := i) (k := 1920) (by decide) h
  simp only [PyData.shown]
  rw [PySem.ofString_length]
  exact this
/-- a number of few digits -/
theorem Rk.int10 {i : Int} {k : Nat} (h0 : 0 < k) (hk : k ≤ 500) (h : i.natAbs < 10 ^ k) : Rk (.int i) (k + 1) 0 := by
  have hlog : i.natAbs.log2 < 1920 := by
    by_cases hz : i.natAbs = 0
    · rw [hz]; decide
    · rw [Nat.log2_lt hz]
      refine Nat.lt_trans h (Nat.lt_of_le_of_lt (Nat.pow_le_pow_right (by decide) hk) (by decide +kernel))
  refine ⟨.int i, rfl, by simpa [PyData.showable] using hlog, by simp [PyData.hasDict], by simp [PyData.canLay0], ?_, by simp [PyData.depth], by simp only [PyData.shown]; exact so_of _⟩
  have := int_text_length_le10 (a := i) h0 h
  simp only [PyData.shown]
  rw [PySem.ofString_length]
  exact this
theorem Rk.lst {l : List PV} {n k : Nat} (h : ∀ p ∈ l, Rk p n k) : Rk (.lst l) (l.length * (n + 2) + 3) (k + 1) := by
  obtain ⟨ds, g1, g2, g3, g4, g5, g6, g7, g8⟩ := (Rks.of h).ex
  refine ⟨.list ds, by show (toDs l).map _ = _; rw [g1]; rfl, by rw [PyData.showable]; exact g2, by rw [PyData.hasDict]; exact g3, by rw [PyData.canLay0]; exact g4, ?_, by rw [PyData.depth]; omega, by rw [PyData.shown]; exact so_list g8⟩
  rw [PyData.shown]
  have := listText_le n _ g5
  rw [shownAll_length, g7] at this
  exact this
theorem Rk.tup {l : List PV} {n k : Nat} (h : ∀ p ∈ l, Rk p n k) : Rk (.tup l) (l.length * (n + 2) + 3) (k + 1) := by
  obtain ⟨ds, g1, g2, g3, g4, g5, g6, g7, g8⟩ := (Rks.of h).ex
  refine ⟨.tuple ds, by show (toDs l).map _ = _; rw [g1]; rfl, by rw [PyData.showable]; exact g2, by rw [PyData.hasDict]; exact g3, by rw [PyData.canLay0]; exact g4, ?_, by rw [PyData.depth]; omega, by rw [PyData.shown]; exact so_tuple g8⟩
  rw [PyData.shown]
  have := tupleText_le n _ g5
  rw [shownAll_length, g7] at this
  exact this
theorem Rk.repr {p : PV} {n k : Nat} (h : Rk p n k) (hn : n ≤ 16777216) (hk : k ≤ 30) : ∃ x, pRepr [p] = some (.str x) := by
  obtain ⟨d, h1, h2, h3, h4, h5, h6, h7⟩ := h.ex
  refine ⟨d.shown, ?_⟩
  unfold pRepr
  simp only [h1]
  rw [if_pos]
  unfold okRepr
  rw [h2, h3, decide_eq_true (Nat.le_trans h5 hn), decide_eq_true (Nat.le_trans h6 hk)]
  rfl
theorem Rk.shaped {p : PV} {n k : Nat} (h : Rk p n k) (hk : k ≤ 64) : ∃ d, toD p = some d ∧ SeqAt.shaped d = true ∧ d.canLay0 = true := by
  obtain ⟨d, h1, h2, h3, h4, h5, h6, h7⟩ := h.ex
  refine ⟨d, h1, ?_, h4⟩
  unfold SeqAt.shaped
  rw [h4, decide_eq_true (Nat.le_trans h6 hk)]
  rfl
theorem Rk.eq_self {p : PV} {n k : Nat} (h : Rk p n k) (hk : k ≤ 64) : pEqB p p = some true := by
  obtain ⟨d, h1, h2, h3⟩ := h.shaped hk
  unfold pEqB
  simp only [h1, h2, Bool.and_self, if_true]
  rw [SeqAt.eqv_refl d h3]
/-! lists of numbers -/
theorem toDs_ints : ∀ ns : List Int, toDs (ns.map PV.int) = some (ns.map PyData.int)
  | [] => rfl
  | n :: r => by
    rw [List.map_cons, List.map_cons]
    unfold toDs
    rw [toDs_ints r]
    rfl
theorem toDs_bls : ∀ ns : List Bool, toDs (ns.map PV.bl) = some (ns.map PyData.bool)
  | [] => rfl
  | n :: r => by
    rw [List.map_cons, List.map_cons]
    unfold toDs
    rw [toDs_bls r]
    rfl
theorem lay_ints : ∀ ns : List Int, PyData.canLayAll0 (ns.map PyData.int) = true
  | [] => by simp [PyData.canLayAll0]
  | n :: r => by rw [List.map_cons, PyData.canLayAll0, lay_ints r]; simp [PyData.canLay0]
theorem depth_ints : ∀ ns : List Int, PyData.depthAll (ns.map PyData.int) = 0
  | [] => by simp [PyData.depthAll]
  | n :: r => by rw [List.map_cons, PyData.depthAll, depth_ints r]; simp [PyData.depth]
theorem shaped_ints (ns : List Int) : SeqAt.shaped (.list (ns.map PyData.int)) = true := by
  unfold SeqAt.shaped
  rw [PyData.canLay0, lay_ints, PyData.depth, depth_ints]
  decide
theorem eqv_ints : ∀ ns ms : List Int, PyData.eqvAll (ns.map PyData.int) (ms.map PyData.int) = decide (ns = ms)
  | [], [] => by simp [PyData.eqvAll]
  | [], _ :: _ => by simp [PyData.eqvAll]
  | _ :: _, [] => by simp [PyData.eqvAll]
  | a :: r, b :: t => by
    rw [List.map_cons, List.map_cons, PyData.eqvAll, eqv_ints r t, PyData.eqv]
    by_cases h : a = b
    · subst h; simp
    · simp [h]
theorem eqB_ints (ns ms : List Int) : pEqB (.lst (ns.map PV.int)) (.lst (ms.map PV.int)) = some (decide (ns = ms)) := by
  unfold pEqB
  have e1 : toD (.lst (ns.map PV.int)) = some (.list (ns.map PyData.int)) := by show (toDs _).map _ = _; rw [toDs_ints]; rfl
  have e2 : toD (.lst (ms.map PV.int)) = some (.list (ms.map PyData.int)) := by show (toDs _).map _ = _; rw [toDs_ints]; rfl
  simp only [e1, e2, shaped_ints, Bool.and_self, if_true]
  rw [PyData.eqv, eqv_ints]
theorem eqB_int (a b : Int) : pEqB (.int a) (.int b) = some (a == b) := by
  simp [pEqB, toD, SeqAt.shaped, PyData.canLay0, PyData.depth, PyData.eqv]
theorem inB_ints (a : Int) (ns : List Int) : pInB (.int a) (.lst (ns.map PV.int)) = some (decide (a ∈ ns)) := by
  unfold pInB
  have e0 : SeqAt.shaped (.int a) = true := by simp [SeqAt.shaped, PyData.canLay0, PyData.depth]
  simp only [toD, toDs_ints, e0, shaped_ints, Bool.and_self, if_true]
  congr 1
  induction ns with
  | nil => simp
  | cons b r ih =>
    rw [List.map_cons, List.any_cons, ih, PyData.eqv]
    by_cases h : b = a
    · subst h; simp
    · have h' : ¬ a = b := fun e => h e.symm
      simp [h, h']
end PL

/-! PM: the mirrors of the program's defs (printed by gen.py). -/
namespace PM
open PySem PySem.Spec PyProof.Rows L2 PL
noncomputable def g__law_draw : Stt → Fl :=
  (gSeq (gIf (tOf (eBin pGt (eIxM 0 (eC (.int 0))) (eC (.int 0))))
  (gSeq (gAsg (eBin pMod (eIxM 0 (eC (.int 0))) (eVar 1)) (aName 2))
  (gSeq (gSetIx 0 (eBin pFdiv (eIxM 0 (eC (.int 0))) (eVar 1)) (eC (.int 0)))
  (gSeq (gRet (eVar 2))
  gNop)))
  gNop)
  (gSeq (gSetIx 0 (eBin pAdd (eIxM 0 (eC (.int 2))) (eC (.int 1))) (eC (.int 2)))
  (gSeq (gAsg (eBin pMod (eBin pPow (eBin pAdd (eIxM 0 (eC (.int 1))) (eBin pMul (eC (.int 179424673)) (eIxM 0 (eC (.int 2))))) (eC (.int 3))) (eC (.int 162259276829213363391578010288127))) (aName 3))
  (gSeq (gAsg (eBin pMod (eBin pPow (eBin pAdd (eVar 3) (eBin pMul (eC (.int 86028157)) (eIxM 0 (eC (.int 2))))) (eC (.int 3))) (eC (.int 170141183460469231731687303715884105727))) (aName 3))
  (gSeq (gRet (eBin pMod (eBin pFdiv (eVar 3) (eC (.int 2097152))) (eVar 1)))
  gNop)))))
noncomputable def m__law_draw : List SV → List MO → FRes := mOf 4 g__law_draw
noncomputable def g_is_guard : Stt → Fl :=
  (gSeq (gAsg (eVar 0) (aTup 4 (asCons (aName 1) (asCons (aName 2) (asCons (aName 3) (asCons (aName 4) asNil))))))
  (gSeq (gRet (eAn (eChain pLe pLe (eC (.int 0)) (eVar 1) (eVar 2)) (eChain pLe pLt (eC (.int 0)) (eVar 4) (eVar 3))))
  gNop))
noncomputable def m_is_guard : List SV → List MO → FRes := mOf 5 g_is_guard
noncomputable def g_check_guard : Stt → Fl :=
  (gSeq (gIf (tNt (tTru (eCall PM.m_is_guard (avN 1 (lPv (eVar 0) lNil)))))
  (gSeq (fun _ => Fl.stuck)
  gNop)
  gNop)
  gNop)
noncomputable def m_check_guard : List SV → List MO → FRes := mOf 1 g_check_guard
noncomputable def g_first_of : Stt → Fl :=
  (gSeq (gAsg (eVar 0) (aTup 4 (asCons (aName 1) (asCons (aName 2) (asCons (aName 3) (asCons (aName 4) asNil))))))
  (gSeq (gRet (eBin pAdd (eVar 1) (eBin pMod (eBin pSub (eVar 4) (eVar 1)) (eVar 3))))
  gNop))
noncomputable def m_first_of : List SV → List MO → FRes := mOf 5 g_first_of
noncomputable def g_lanes_of : Stt → Fl :=
  (gSeq (gRet (eCallB pMax2 (aCons (eC (.int 0)) (aCons (eBin pFdiv (eBin pSub (eBin pAdd (eBin pSub (eBin pIx (eVar 0) (eC (.int 1))) (eCall PM.m_first_of (avN 1 (lPv (eVar 0) lNil)))) (eBin pIx (eVar 0) (eC (.int 2)))) (eC (.int 1))) (eBin pIx (eVar 0) (eC (.int 2)))) aNil))))
  gNop)
noncomputable def m_lanes_of : List SV → List MO → FRes := mOf 1 g_lanes_of
noncomputable def g_count_lanes : Stt → Fl :=
  (gSeq (gDrop (eCall PM.m_check_guard (avN 1 (lPv (eVar 0) lNil))))
  (gSeq (gRet (eCall PM.m_lanes_of (avN 1 (lPv (eVar 0) lNil))))
  gNop))
noncomputable def m_count_lanes : List SV → List MO → FRes := mOf 1 g_count_lanes
noncomputable def g_has : Stt → Fl :=
  (gSeq (gAsg (eVar 0) (aTup 4 (asCons (aName 2) (asCons (aName 3) (asCons (aName 4) (asCons (aName 5) asNil))))))
  (gSeq (gRet (eAn (eChain pLe pLt (eVar 2) (eVar 1) (eVar 3)) (eBin pEq (eBin pMod (eVar 1) (eVar 4)) (eVar 5))))
  gNop))
noncomputable def m_has : List SV → List MO → FRes := mOf 6 g_has
noncomputable def g_has_lane : Stt → Fl :=
  (gSeq (gDrop (eCall PM.m_check_guard (avN 1 (lPv (eVar 0) lNil))))
  (gSeq (gRet (eCall PM.m_has (avN 2 (lPv (eVar 0) (lPv (eVar 1) lNil)))))
  gNop))
noncomputable def m_has_lane : List SV → List MO → FRes := mOf 2 g_has_lane
noncomputable def g_bezout : Stt → Fl :=
  (gSeq (gAsg (eTup (aCons (eVar 0) (aCons (eVar 1) (aCons (eC (.int 1)) (aCons (eC (.int 0)) aNil))))) (aTup 4 (asCons (aName 2) (asCons (aName 3) (asCons (aName 4) (asCons (aName 5) asNil))))))
  (gSeq (gWhile (tOf (eBin pNe (eVar 3) (eC (.int 0))))
  (gSeq (gAsg (eBin pFdiv (eVar 2) (eVar 3)) (aName 6))
  (gSeq (gPar 2 3 (aCons (eVar 3) (aCons (eBin pSub (eVar 2) (eBin pMul (eVar 6) (eVar 3))) aNil)))
  (gSeq (gPar 4 5 (aCons (eVar 5) (aCons (eBin pSub (eVar 4) (eBin pMul (eVar 6) (eVar 5))) aNil)))
  gNop))))
  (gSeq (gRet (eIf (tOf (eBin pGe (eVar 2) (eC (.int 0)))) (eTup (aCons (eVar 2) (aCons (eVar 4) aNil))) (eTup (aCons (eUn pNeg (eVar 2)) (aCons (eUn pNeg (eVar 4)) aNil)))))
  gNop)))
noncomputable def m_bezout : List SV → List MO → FRes := mOf 7 g_bezout
noncomputable def g_meeting : Stt → Fl :=
  (gSeq (gAsg (eCall PM.m_bezout (avN 2 (lPv (eBin pIx (eVar 0) (eC (.int 2))) (lPv (eBin pIx (eVar 1) (eC (.int 2))) lNil)))) (aTup 2 (asCons (aName 2) (asCons (aName 3) asNil))))
  (gSeq (gAsg (eBin pSub (eBin pIx (eVar 1) (eC (.int 3))) (eBin pIx (eVar 0) (eC (.int 3)))) (aName 4))
  (gSeq (gIf (tOf (eBin pNe (eBin pMod (eVar 4) (eVar 2)) (eC (.int 0))))
  (gSeq (gRet (eC .non))
  gNop)
  gNop)
  (gSeq (gAsg (eBin pMul (eBin pFdiv (eBin pIx (eVar 0) (eC (.int 2))) (eVar 2)) (eBin pIx (eVar 1) (eC (.int 2)))) (aName 5))
  (gSeq (gAsg (eBin pMod (eBin pAdd (eBin pIx (eVar 0) (eC (.int 3))) (eBin pMul (eBin pIx (eVar 0) (eC (.int 2))) (eBin pMul (eBin pFdiv (eVar 4) (eVar 2)) (eVar 3)))) (eVar 5)) (aName 6))
  (gSeq (gAsg (eTup (aCons (eCallB pMax2 (aCons (eBin pIx (eVar 0) (eC (.int 0))) (aCons (eBin pIx (eVar 1) (eC (.int 0))) aNil))) (aCons (eCallB pMin2 (aCons (eBin pIx (eVar 0) (eC (.int 1))) (aCons (eBin pIx (eVar 1) (eC (.int 1))) aNil))) (aCons (eVar 5) (aCons (eVar 6) aNil))))) (aName 7))
  (gSeq (gRet (eIf (tAn (tOf (eBin pLt (eBin pIx (eVar 7) (eC (.int 0))) (eBin pIx (eVar 7) (eC (.int 1))))) (tOf (eBin pGt (eCall PM.m_lanes_of (avN 1 (lPv (eVar 7) lNil))) (eC (.int 0))))) (eVar 7) (eC .non)))
  gNop)))))))
noncomputable def m_meeting : List SV → List MO → FRes := mOf 8 g_meeting
noncomputable def g_met : Stt → Fl :=
  (gSeq (gDrop (eCall PM.m_check_guard (avN 1 (lPv (eVar 0) lNil))))
  (gSeq (gDrop (eCall PM.m_check_guard (avN 1 (lPv (eVar 1) lNil))))
  (gSeq (gRet (eCall PM.m_meeting (avN 2 (lPv (eVar 0) (lPv (eVar 1) lNil)))))
  gNop)))
noncomputable def m_met : List SV → List MO → FRes := mOf 2 g_met
noncomputable def g_lane_at : Stt → Fl :=
  (gSeq (gRet (eBin pAdd (eCall PM.m_first_of (avN 1 (lPv (eVar 0) lNil))) (eBin pMul (eBin pIx (eVar 0) (eC (.int 2))) (eVar 1))))
  gNop)
noncomputable def m_lane_at : List SV → List MO → FRes := mOf 2 g_lane_at
noncomputable def g_nth_lane : Stt → Fl :=
  (gSeq (gDrop (eCall PM.m_check_guard (avN 1 (lPv (eVar 0) lNil))))
  (gSeq (gIf (tNt (tOf (eChain pLe pLt (eC (.int 0)) (eVar 1) (eCall PM.m_lanes_of (avN 1 (lPv (eVar 0) lNil))))))
  (gSeq (fun _ => Fl.stuck)
  gNop)
  gNop)
  (gSeq (gRet (eCall PM.m_lane_at (avN 2 (lPv (eVar 0) (lPv (eVar 1) lNil)))))
  gNop)))
noncomputable def m_nth_lane : List SV → List MO → FRes := mOf 2 g_nth_lane
noncomputable def g__law_source : Stt → Fl :=
  (gSeq (gAsg (eTup (aCons (eC (.int 0)) (aCons (eC (.int 7368787)) aNil))) (aTup 2 (asCons (aName 1) (asCons (aName 2) asNil))))
  (gSeq (gFor (iAny (eSl (eVar 0) pNo (pSo (eC (.int 63))))) (aName 3)
  (gSeq (gIf (tOf (eBin pGe (eCallB pAbs (aCons (eVar 3) aNil)) (eBin pPow (eC (.int 10)) (eC (.int 18)))))
  (gSeq (gAsg (eBin pAdd (eBin pMul (eVar 1) (eBin pPow (eC (.int 10)) (eC (.int 60)))) (eBin pMod (eCallB pAbs (aCons (eVar 3) aNil)) (eBin pPow (eC (.int 10)) (eC (.int 60))))) (aName 1))
  gNop)
  gNop)
  (gSeq (gAsg (eBin pMod (eBin pAdd (eBin pAdd (eBin pMul (eVar 2) (eC (.int 6700417))) (eBin pMod (eVar 3) (eC (.int 2305843009213693921)))) (eC (.int 13))) (eC (.int 2305843009213693951))) (aName 2))
  gNop)))
  (gSeq (gRetO (oLst (aCons (eVar 1) (aCons (eVar 2) (aCons (eC (.int 0)) aNil)))))
  gNop)))
noncomputable def m__law_source : List SV → List MO → FRes := mOf 4 g__law_source
noncomputable def g__law_pool : Stt → Fl :=
  (gSeq (gAsg (eC (.int 0)) (aName 2))
  (gSeq (gIf (tOf (eBin pLt (eVar 1) (eCallB pLen (aCons (eVar 0) aNil))))
  (gSeq (gAsg (eBin pIx (eVar 0) (eVar 1)) (aName 2))
  gNop)
  gNop)
  (gSeq (gRetO (oLst (aCons (eCallB pMax2 (aCons (eC (.int 0)) (aCons (eBin pSub (eCallB pAbs (aCons (eVar 2) aNil)) (eBin pPow (eC (.int 10)) (eC (.int 18)))) aNil))) (aCons (eBin pAdd (eBin pMod (eVar 2) (eC (.int 2305843009213693951))) (eBin pMul (eC (.int 3367900313)) (eBin pAdd (eVar 1) (eC (.int 1))))) (aCons (eC (.int 0)) aNil)))))
  gNop)))
noncomputable def m__law_pool : List SV → List MO → FRes := mOf 3 g__law_pool
noncomputable def g__law_draw_2 : Stt → Fl :=
  (gSeq (gIf (tOf (eBin pGt (eIxM 0 (eC (.int 0))) (eC (.int 0))))
  (gSeq (gAsg (eBin pMod (eIxM 0 (eC (.int 0))) (eVar 1)) (aName 2))
  (gSeq (gSetIx 0 (eBin pFdiv (eIxM 0 (eC (.int 0))) (eVar 1)) (eC (.int 0)))
  (gSeq (gRet (eVar 2))
  gNop)))
  gNop)
  (gSeq (gSetIx 0 (eBin pAdd (eIxM 0 (eC (.int 2))) (eC (.int 1))) (eC (.int 2)))
  (gSeq (gAsg (eBin pMod (eBin pPow (eBin pAdd (eIxM 0 (eC (.int 1))) (eBin pMul (eC (.int 15488257)) (eIxM 0 (eC (.int 2))))) (eC (.int 3))) (eC (.int 162259276829213363391578010288127))) (aName 3))
  (gSeq (gAsg (eBin pMod (eBin pPow (eBin pAdd (eVar 3) (eBin pMul (eC (.int 32453651)) (eIxM 0 (eC (.int 2))))) (eC (.int 5))) (eC (.int 170141183460469231731687303715884105727))) (aName 3))
  (gSeq (gRet (eBin pMod (eBin pFdiv (eVar 3) (eC (.int 1048576))) (eVar 1)))
  gNop)))))
noncomputable def m__law_draw_2 : List SV → List MO → FRes := mOf 4 g__law_draw_2
noncomputable def g_check_banks : Stt → Fl :=
  (gSeq (gIf (tNt (tOf (eChain pLe pLe (eC (.int 1)) (eVar 0) (eC (.int 4096)))))
  (gSeq (fun _ => Fl.stuck)
  gNop)
  gNop)
  gNop)
noncomputable def m_check_banks : List SV → List MO → FRes := mOf 1 g_check_banks
noncomputable def g_check_lengths : Stt → Fl :=
  (gSeq (gFor (iAny (eVar 0)) (aName 1)
  (gSeq (gIf (tOf (eBin pLt (eVar 1) (eC (.int 1))))
  (gSeq (fun _ => Fl.stuck)
  gNop)
  gNop)
  gNop))
  gNop)
noncomputable def m_check_lengths : List SV → List MO → FRes := mOf 2 g_check_lengths
noncomputable def g_check_wave : Stt → Fl :=
  (gSeq (gIf (tNt (tOf (eChain pLe pLe (eC (.int 1)) (eVar 0) (eC (.int 32)))))
  (gSeq (fun _ => Fl.stuck)
  gNop)
  gNop)
  gNop)
noncomputable def m_check_wave : List SV → List MO → FRes := mOf 1 g_check_wave
noncomputable def g_different_banks : Stt → Fl :=
  (gSeq (gRet (eBin pFdiv (eVar 1) (eBin pIx (eCall PM.m_bezout (avN 2 (lPv (eBin pMod (eVar 0) (eVar 1)) (lPv (eVar 1) lNil)))) (eC (.int 0)))))
  gNop)
noncomputable def m_different_banks : List SV → List MO → FRes := mOf 2 g_different_banks
noncomputable def g_degree_for : Stt → Fl :=
  (gSeq (gIf (tOrr (tOf (eBin pEq (eVar 0) (eC (.int 0)))) (tOf (eBin pEq (eVar 1) (eC (.int 0)))))
  (gSeq (gRet (eCallB pMin2 (aCons (eVar 0) (aCons (eC (.int 1)) aNil))))
  gNop)
  gNop)
  (gSeq (gAsg (eCall PM.m_different_banks (avN 2 (lPv (eVar 1) (lPv (eVar 2) lNil)))) (aName 3))
  (gSeq (gRet (eBin pFdiv (eBin pSub (eBin pAdd (eVar 0) (eVar 3)) (eC (.int 1))) (eVar 3)))
  gNop)))
noncomputable def m_degree_for : List SV → List MO → FRes := mOf 4 g_degree_for
noncomputable def g_is_free : Stt → Fl :=
  (gSeq (gRet (eBin pEq (eCall PM.m_degree_for (avN 3 (lPv (eVar 0) (lPv (eVar 2) (lPv (eVar 1) lNil))))) (eC (.int 1))))
  gNop)
noncomputable def m_is_free : List SV → List MO → FRes := mOf 3 g_is_free
noncomputable def g_count_lengths : Stt → Fl :=
  (gSeq (gDrop (eCall PM.m_check_wave (avN 1 (lPv (eVar 0) lNil))))
  (gSeq (gDrop (eCall PM.m_check_banks (avN 1 (lPv (eVar 1) lNil))))
  (gSeq (gDrop (eCallQ PM.m_check_lengths (aCons (eVar 2) (aCons (eVar 3) aNil))))
  (gSeq (gIf (tOf (eBin pLt (eVar 3) (eVar 2)))
  (gSeq (fun _ => Fl.stuck)
  gNop)
  gNop)
  (gSeq (gAsg (eCallB pDivmod (aCons (eBin pAdd (eBin pSub (eVar 3) (eVar 2)) (eC (.int 1))) (aCons (eVar 1) aNil))) (aTup 2 (asCons (aName 4) (asCons (aName 5) asNil))))
  (gSeq (gAsg (frz (oComp [7] (iRangeW1 (aCons (eVar 1) aNil)) (aName 7) tYesD (eCall PM.m_is_free (avN 3 (lPv (eVar 0) (lPv (eVar 1) (lPv (eBin pAdd (eVar 2) (eVar 7)) lNil))))))) (aName 6))
  (gSeq (gRet (eBin pAdd (eBin pMul (eVar 4) (eCallB pSum (aCons (eVar 6) aNil))) (eCallB pSum (aCons (eSl (eVar 6) pNo (pSo (eVar 5))) aNil))))
  gNop)))))))
noncomputable def m_count_lengths : List SV → List MO → FRes := mOf 8 g_count_lengths
noncomputable def g_least_length : Stt → Fl :=
  (gSeq (gDrop (eCall PM.m_check_wave (avN 1 (lPv (eVar 0) lNil))))
  (gSeq (gDrop (eCall PM.m_check_banks (avN 1 (lPv (eVar 1) lNil))))
  (gSeq (gDrop (eCallQ PM.m_check_lengths (aCons (eVar 2) aNil)))
  (gSeq (gFor (iRangeW2 (aCons (eVar 2) (aCons (eBin pAdd (eVar 2) (eVar 1)) aNil))) (aName 3)
  (gSeq (gIf (tTru (eCall PM.m_is_free (avN 3 (lPv (eVar 0) (lPv (eVar 1) (lPv (eVar 3) lNil))))))
  (gSeq (gRet (eVar 3))
  gNop)
  gNop)
  gNop))
  (gSeq (gRet (eC .non))
  gNop)))))
noncomputable def m_least_length : List SV → List MO → FRes := mOf 4 g_least_length
noncomputable def g_is_array : Stt → Fl :=
  (gSeq (gRet (eAn (eChain pLe pLe (eC (.int 1)) (eCallB pLen (aCons (eVar 0) aNil)) (eC (.int 8))) (eCallB pAll (aCons (frz (oComp [1] (iTxt (eVar 0)) (aName 1) tYesD (eBin pInSg (eVar 1) (eC (.str "abcdefghijklmnopqrstuvwxyz"))))) aNil))))
  gNop)
noncomputable def m_is_array : List SV → List MO → FRes := mOf 2 g_is_array
noncomputable def g_is_statement : Stt → Fl :=
  (gSeq (gIf (tOf (eBin pNe (eDct [("put", .int 7), ("move", .int 9), ("sum", .int 11)] (eBin pIx (eVar 0) (eC (.int 0)))) (eCallB pLen (aCons (eVar 0) aNil))))
  (gSeq (gRet (eC (.bl false)))
  gNop)
  gNop)
  (gSeq (gIf (tNt (tTru (eCallB pAll (aCons (frz (oComp [2] (iAny (eDct [("put", .tup [.int 2]), ("move", .tup [.int 2, .int 5]), ("sum", .tup [.int 2, .int 5, .int 8])] (eBin pIx (eVar 0) (eC (.int 0))))) (aName 2) tYesD (eCall PM.m_is_array (avN 1 (lPv (eBin pIx (eVar 0) (eVar 2)) lNil))))) aNil))))
  (gSeq (gRet (eC (.bl false)))
  gNop)
  gNop)
  (gSeq (gRet (eAn (eCall PM.m_is_guard (avN 1 (lPv (eBin pIx (eVar 0) (eC (.int 1))) lNil))) (eBin pLe (eBin pIx (eBin pIx (eVar 0) (eC (.int 1))) (eC (.int 1))) (eVar 1))))
  gNop)))
noncomputable def m_is_statement : List SV → List MO → FRes := mOf 3 g_is_statement
noncomputable def g_check_statement : Stt → Fl :=
  (gSeq (gIf (tNt (tOf (eChain pLe pLt (eC (.int 0)) (eVar 1) (eCallB pLen (aCons (eFld "Kernel" "kept_statements" (eVar 0)) aNil)))))
  (gSeq (fun _ => Fl.stuck)
  gNop)
  gNop)
  gNop)
noncomputable def m_check_statement : List SV → List MO → FRes := mOf 2 g_check_statement
noncomputable def g_are_lonely : Stt → Fl :=
  (gSeq (gRet (eBin pGe (eBin pIx (eVar 0) (eC (.int 2))) (eVar 1)))
  gNop)
noncomputable def m_are_lonely : List SV → List MO → FRes := mOf 2 g_are_lonely
noncomputable def g_last_of : Stt → Fl :=
  (gSeq (gRet (eCall PM.m_lane_at (avN 2 (lPv (eVar 0) (lPv (eBin pSub (eCall PM.m_lanes_of (avN 1 (lPv (eVar 0) lNil))) (eC (.int 1))) lNil)))))
  gNop)
noncomputable def m_last_of : List SV → List MO → FRes := mOf 1 g_last_of
noncomputable def g_waves_with : Stt → Fl :=
  (gSeq (gAsg (eCall PM.m_lanes_of (avN 1 (lPv (eVar 0) lNil))) (aName 2))
  (gSeq (gIf (tOrr (tOf (eBin pEq (eVar 2) (eC (.int 0)))) (tTru (eCall PM.m_are_lonely (avN 2 (lPv (eVar 0) (lPv (eVar 1) lNil))))))
  (gSeq (gRet (eVar 2))
  gNop)
  gNop)
  (gSeq (gRet (eBin pAdd (eBin pSub (eBin pFdiv (eCall PM.m_last_of (avN 1 (lPv (eVar 0) lNil))) (eVar 1)) (eBin pFdiv (eCall PM.m_first_of (avN 1 (lPv (eVar 0) lNil))) (eVar 1))) (eC (.int 1))))
  gNop)))
noncomputable def m_waves_with : List SV → List MO → FRes := mOf 3 g_waves_with
noncomputable def g_count_waves : Stt → Fl :=
  (gSeq (gDrop (eCall PM.m_check_statement (avN 2 (lPv (eVar 0) (lPv (eVar 1) lNil)))))
  (gSeq (gDrop (eCall PM.m_check_wave (avN 1 (lPv (eVar 2) lNil))))
  (gSeq (gRet (eCall PM.m_waves_with (avN 2 (lPv (eBin pIx (eBin pIx (eFld "Kernel" "kept_statements" (eVar 0)) (eVar 1)) (eC (.int 1))) (lPv (eVar 2) lNil)))))
  gNop)))
noncomputable def m_count_waves : List SV → List MO → FRes := mOf 3 g_count_waves
noncomputable def g_full_in : Stt → Fl :=
  (gSeq (gAsg (eVar 0) (aTup 4 (asCons (aName 3) (asCons (aName 4) (asCons (aName 5) (asCons (aName 6) asNil))))))
  (gSeq (gIf (tAn (tOf (eBin pGt (eVar 5) (eC (.int 1)))) (tOf (eBin pGt (eVar 1) (eC (.int 1)))))
  (gSeq (gRet (eCallB pInt1 (aCons (eAn (eBin pEq (eBin pMod (eVar 2) (eVar 1)) (eC (.int 1))) (eCall PM.m_has (avN 2 (lPv (eVar 0) (lPv (eBin pSub (eVar 2) (eC (.int 1))) lNil))))) aNil)))
  gNop)
  gNop)
  (gSeq (gIf (tOf (eBin pEq (eVar 1) (eC (.int 1))))
  (gSeq (gRet (eCall PM.m_lanes_of (avN 1 (lPv (eVar 0) lNil))))
  gNop)
  gNop)
  (gSeq (gAsg (eBin pFdiv (eBin pSub (eBin pAdd (eVar 3) (eVar 1)) (eC (.int 1))) (eVar 1)) (aName 7))
  (gSeq (gAsg (eIf (tOf (eBin pEq (eVar 4) (eVar 2))) (eBin pFdiv (eBin pSub (eBin pAdd (eVar 4) (eVar 1)) (eC (.int 1))) (eVar 1)) (eBin pFdiv (eVar 4) (eVar 1))) (aName 8))
  (gSeq (gRet (eCallB pMax2 (aCons (eC (.int 0)) (aCons (eBin pSub (eVar 8) (eVar 7)) aNil))))
  gNop))))))
noncomputable def m_full_in : List SV → List MO → FRes := mOf 9 g_full_in
noncomputable def g_full_waves : Stt → Fl :=
  (gSeq (gDrop (eCall PM.m_check_statement (avN 2 (lPv (eVar 0) (lPv (eVar 1) lNil)))))
  (gSeq (gDrop (eCall PM.m_check_wave (avN 1 (lPv (eVar 2) lNil))))
  (gSeq (gRet (eCall PM.m_full_in (avN 3 (lPv (eBin pIx (eBin pIx (eFld "Kernel" "kept_statements" (eVar 0)) (eVar 1)) (eC (.int 1))) (lPv (eVar 2) (lPv (eFld "Kernel" "lane_count" (eVar 0)) lNil))))))
  gNop)))
noncomputable def m_full_waves : List SV → List MO → FRes := mOf 3 g_full_waves
noncomputable def g_wave_count : Stt → Fl :=
  (gSeq (gRet (eBin pFdiv (eBin pSub (eBin pAdd (eFld "Kernel" "lane_count" (eVar 0)) (eVar 1)) (eC (.int 1))) (eVar 1)))
  gNop)
noncomputable def m_wave_count : List SV → List MO → FRes := mOf 2 g_wave_count
noncomputable def g_check_wave_number : Stt → Fl :=
  (gSeq (gIf (tNt (tOf (eChain pLe pLt (eC (.int 0)) (eVar 2) (eCall PM.m_wave_count (avN 2 (lPv (eVar 0) (lPv (eVar 1) lNil)))))))
  (gSeq (fun _ => Fl.stuck)
  gNop)
  gNop)
  gNop)
noncomputable def m_check_wave_number : List SV → List MO → FRes := mOf 3 g_check_wave_number
noncomputable def g_in_wave : Stt → Fl :=
  (gSeq (gAsg (eVar 0) (aTup 4 (asCons (aName 3) (asCons (aName 4) (asCons (aName 5) (asCons (aName 6) asNil))))))
  (gSeq (gRet (eTup (aCons (eCallB pMax2 (aCons (eVar 3) (aCons (eBin pMul (eVar 1) (eVar 2)) aNil))) (aCons (eCallB pMin2 (aCons (eVar 4) (aCons (eBin pAdd (eBin pMul (eVar 1) (eVar 2)) (eVar 1)) aNil))) (aCons (eVar 5) (aCons (eVar 6) aNil))))))
  gNop))
noncomputable def m_in_wave : List SV → List MO → FRes := mOf 7 g_in_wave
noncomputable def g_lanes_in_wave : Stt → Fl :=
  (gSeq (gDrop (eCall PM.m_check_statement (avN 2 (lPv (eVar 0) (lPv (eVar 1) lNil)))))
  (gSeq (gDrop (eCall PM.m_check_wave (avN 1 (lPv (eVar 2) lNil))))
  (gSeq (gDrop (eCall PM.m_check_wave_number (avN 3 (lPv (eVar 0) (lPv (eVar 2) (lPv (eVar 3) lNil))))))
  (gSeq (gRet (eCall PM.m_lanes_of (avN 1 (lPv (eCall PM.m_in_wave (avN 3 (lPv (eBin pIx (eBin pIx (eFld "Kernel" "kept_statements" (eVar 0)) (eVar 1)) (eC (.int 1))) (lPv (eVar 2) (lPv (eVar 3) lNil))))) lNil))))
  gNop))))
noncomputable def m_lanes_in_wave : List SV → List MO → FRes := mOf 4 g_lanes_in_wave
noncomputable def g_check_barriers : Stt → Fl :=
  (gSeq (gAsg (eC (.int 0)) (aName 2))
  (gSeq (gFor (iEnumQ (aCons (eVar 0) aNil)) (aTup 2 (asCons (aName 3) (asCons (aName 4) asNil)))
  (gSeq (gIf (tNt (tOf (eChain pLt pLt (eVar 2) (eVar 4) (eVar 1))))
  (gSeq (fun _ => Fl.stuck)
  gNop)
  gNop)
  (gSeq (gAsg (eVar 4) (aName 2))
  gNop)))
  gNop))
noncomputable def m_check_barriers : List SV → List MO → FRes := mOf 5 g_check_barriers
noncomputable def g_Kernel___init__ : Stt → Fl :=
  (gSeq (gIf (tOf (eBin pLt (eVar 1) (eC (.int 1))))
  (gSeq (fun _ => Fl.stuck)
  gNop)
  gNop)
  (gSeq (gFor (iEnumQ (aCons (eVar 2) aNil)) (aTup 2 (asCons (aName 4) (asCons (aName 5) asNil)))
  (gSeq (gIf (tNt (tTru (eCall PM.m_is_statement (avN 2 (lPv (eVar 5) (lPv (eVar 1) lNil))))))
  (gSeq (fun _ => Fl.stuck)
  gNop)
  gNop)
  gNop))
  (gSeq (gDrop (eCall PM.m_check_barriers (avN 2 (lPv (eVar 3) (lPv (eCallB pLen (aCons (eVar 2) aNil)) lNil)))))
  (gSeq (gSetFld 0 "Kernel" "lane_count" (eVar 1))
  (gSeq (gSetFld 0 "Kernel" "kept_statements" (eTupV (eVar 2)))
  (gSeq (gSetFld 0 "Kernel" "kept_barriers" (eTupV (eVar 3)))
  gNop))))))
noncomputable def m_Kernel___init__ : List SV → List MO → FRes := mOf 6 g_Kernel___init__
end PM

/-! PN: guards: the plain law. -/
namespace PN
def firstOf (l s r : Int) : Int := l + (r - l) % s
def lanesOf (l h s r : Int) : Int := max 0 ((h - firstOf l s r + s - 1) / s)
theorem first_ge {l s r : Int} (hs : 0 < s) : l ≤ firstOf l s r := by
  unfold firstOf
  have := Int.emod_nonneg (r - l) (show s ≠ 0 by omega)
  omega
theorem first_lt {l s r : Int} (hs : 0 < s) : firstOf l s r < l + s := by
  unfold firstOf
  have := Int.emod_lt_of_pos (r - l) hs
  omega
theorem first_mod {l s r : Int} (hs : 0 < s) (h0 : 0 ≤ r) (h1 : r < s) : firstOf l s r % s = r := by
  unfold firstOf
  have e : (l + (r - l) % s) % s = (l + (r - l)) % s := by rw [Int.add_emod, Int.emod_emod_of_dvd _ (Int.dvd_refl s), ← Int.add_emod]
  rw [e, show l + (r - l) = r by omega]
  exact Int.emod_eq_of_lt h0 h1
theorem lanes_nonneg (l h s r : Int) : 0 ≤ lanesOf l h s r := Int.le_max_left _ _
/-- a number below the count of lanes names a lane below high -/
theorem lanes_lt {l h s r k : Int} (hs : 0 < s) (hk : 0 ≤ k) : k < lanesOf l h s r ↔ firstOf l s r + s * k < h := by
  unfold lanesOf
  have e : (k < max 0 ((h - firstOf l s r + s - 1) / s)) ↔ k < (h - firstOf l s r + s - 1) / s := by
    constructor
    · intro z
      rcases Int.le_total 0 ((h - firstOf l s r + s - 1) / s) with q | q
      · rwa [Int.max_eq_right q] at z
      · rw [Int.max_eq_left q] at z; omega
    · intro z
      exact Int.lt_of_lt_of_le z (Int.le_max_right _ _)
  rw [e]
  have e2 : k < (h - firstOf l s r + s - 1) / s ↔ (k + 1) * s ≤ h - firstOf l s r + s - 1 := by
    rw [← Int.le_ediv_iff_mul_le hs]
    omega
  rw [e2, Int.add_mul, Int.one_mul, Int.mul_comm k s]
  omega
theorem lane_iff {l h s r x : Int} (hs : 0 < s) (h0 : 0 ≤ r) (h1 : r < s) : (l ≤ x ∧ x < h ∧ x % s = r) ↔ ∃ k, 0 ≤ k ∧ k < lanesOf l h s r ∧ x = firstOf l s r + s * k := by
  have fm := first_mod (l := l) hs h0 h1
  constructor
  · rintro ⟨a, b, c⟩
    have d : s ∣ x - firstOf l s r := by
      refine Int.dvd_of_emod_eq_zero ?_
      rw [Int.sub_emod, c, fm, Int.sub_self, Int.zero_emod]
    obtain ⟨k, hk⟩ := d
    have ex : x = firstOf l s r + s * k := by omega
    have k0 : 0 ≤ k := by
      have f1 := first_lt (l := l) (r := r) hs
      rcases Int.lt_or_le k 0 with z | z
      · have : s * k ≤ s * (-1) := Int.mul_le_mul_of_nonneg_left (by omega) (by omega)
        omega
      · exact z
    exact ⟨k, k0, (lanes_lt hs k0).mpr (by omega), ex⟩
  · rintro ⟨k, k0, k1, ex⟩
    have q := (lanes_lt hs k0).mp k1
    have f1 := first_ge (l := l) (r := r) hs
    have m : 0 ≤ s * k := Int.mul_nonneg (by omega) k0
    refine ⟨by omega, by omega, ?_⟩
    rw [ex, Int.add_mul_emod_self_left, fm]
/-! ### ascending lists -/
theorem asc_ext : ∀ {a b : List Int}, a.Pairwise (· < ·) → b.Pairwise (· < ·) → (∀ x, x ∈ a ↔ x ∈ b) → a = b
  | [], [], _, _, _ => rfl
  | [], y :: b, _, _, h => absurd ((h y).mpr List.mem_cons_self) (by simp)
  | x :: a, [], _, _, h => absurd ((h x).mp List.mem_cons_self) (by simp)
  | x :: a, y :: b, ha, hb, h => by
    rw [List.pairwise_cons] at ha hb
    have e : x = y := by
      rcases List.mem_cons.mp ((h x).mp List.mem_cons_self) with q | q
      · exact q
      · rcases List.mem_cons.mp ((h y).mpr List.mem_cons_self) with z | z
        · exact z.symm
        · have h1 := hb.1 x q
          have h2 := ha.1 y z
          omega
    subst e
    refine congrArg (x :: ·) (asc_ext ha.2 hb.2 fun z => ?_)
    constructor
    · intro hz
      rcases List.mem_cons.mp ((h z).mp (List.mem_cons_of_mem _ hz)) with q | q
      · have := ha.1 z hz; omega
      · exact q
    · intro hz
      rcases List.mem_cons.mp ((h z).mpr (List.mem_cons_of_mem _ hz)) with q | q
      · have := hb.1 z hz; omega
      · exact q
/-- lo, lo + 1, .. below hi -/
def seqI (lo hi : Int) : List Int := (List.range (hi - lo).toNat).map fun i : Nat => lo + i
theorem mem_seqI {lo hi x : Int} : x ∈ seqI lo hi ↔ lo ≤ x ∧ x < hi := by
  unfold seqI
  rw [List.mem_map]
  constructor
  · rintro ⟨i, hi', rfl⟩
    rw [List.mem_range] at hi'
    omega
  · rintro ⟨h1, h2⟩
    exact ⟨(x - lo).toNat, by rw [List.mem_range]; omega, by omega⟩
theorem seqI_asc (lo hi : Int) : (seqI lo hi).Pairwise (· < ·) := by
  unfold seqI
  rw [List.pairwise_map]
  refine List.Pairwise.imp ?_ List.pairwise_lt_range
  intro a b h
  omega
/-- the lanes of a guard, found one by one -/
def listed (l h s r : Int) : List Int := (seqI l h).filter fun x => decide (x % s = r)
theorem mem_listed {l h s r x : Int} : x ∈ listed l h s r ↔ l ≤ x ∧ x < h ∧ x % s = r := by
  unfold listed
  rw [List.mem_filter, mem_seqI, decide_eq_true_eq]
  exact ⟨fun h => ⟨h.1.1, h.1.2, h.2⟩, fun h => ⟨⟨h.1, h.2.1⟩, h.2.2⟩⟩
theorem listed_asc (l h s r : Int) : (listed l h s r).Pairwise (· < ·) := (seqI_asc l h).filter _
/-- the lanes by their numbers -/
def numbered (l h s r : Int) : List Int := (List.range (lanesOf l h s r).toNat).map fun k : Nat => firstOf l s r + s * k
theorem listed_eq {l h s r : Int} (hs : 0 < s) (h0 : 0 ≤ r) (h1 : r < s) : listed l h s r = numbered l h s r := by
  refine asc_ext (listed_asc _ _ _ _) ?_ fun x => ?_
  · unfold numbered
    rw [List.pairwise_map]
    refine List.Pairwise.imp ?_ List.pairwise_lt_range
    intro a b hab
    have : s * (a : Int) < s * (b : Int) := Int.mul_lt_mul_of_pos_left (by omega) hs
    omega
  · rw [mem_listed, lane_iff hs h0 h1]
    unfold numbered
    rw [List.mem_map]
    constructor
    · rintro ⟨k, a, b, rfl⟩
      exact ⟨k.toNat, by rw [List.mem_range]; omega, by rw [Int.toNat_of_nonneg a]⟩
    · rintro ⟨k, a, rfl⟩
      rw [List.mem_range] at a
      exact ⟨k, by omega, by omega, rfl⟩
theorem listed_len {l h s r : Int} (hs : 0 < s) (h0 : 0 ≤ r) (h1 : r < s) : ((listed l h s r).length : Int) = lanesOf l h s r := by
  rw [listed_eq hs h0 h1, numbered, List.length_map, List.length_range]
  exact Int.toNat_of_nonneg (lanes_nonneg _ _ _ _)
/-! ### common lanes -/
theorem both_dvd {s1 s2 g q q2 x y d : Int} (hg : g ≠ 0) (e1 : s1 = g * q) (e2 : s2 = g * q2) (bz : s1 * x + s2 * y = g) : (s1 ∣ d ∧ s2 ∣ d) ↔ q * s2 ∣ d := by
  constructor
  · rintro ⟨⟨u, hu⟩, ⟨v, hv⟩⟩
    refine ⟨v * x + u * y, ?_⟩
    have key : g * d = g * (q * s2 * (v * x + u * y)) := by
      have a1 : d * (s1 * x) = s2 * v * (s1 * x) := by rw [← hv]
      have a2 : d * (s2 * y) = s1 * u * (s2 * y) := by rw [← hu]
      have a3 : g * d = d * (s1 * x) + d * (s2 * y) := by rw [← Int.mul_add, bz, Int.mul_comm]
      rw [a3, a1, a2, e1]
      grind
    exact Int.eq_of_mul_eq_mul_left hg key
  · rintro ⟨u, hu⟩
    exact ⟨⟨q2 * u, by rw [hu, e1, e2]; grind⟩, ⟨q * u, by rw [hu]; grind⟩⟩
theorem dvd_of_emod {s x y : Int} (h : x % s = y % s) : s ∣ x - y := by
  refine Int.dvd_of_emod_eq_zero ?_
  rw [Int.sub_emod, h, Int.sub_self, Int.zero_emod]
theorem emod_of_dvd {s x y : Int} (h : s ∣ x - y) : x % s = y % s := by
  obtain ⟨k, hk⟩ := h
  have : x = y + s * k := by omega
  rw [this, Int.add_mul_emod_self_left]
/-- the remainder of the common lanes -/
def restOf (s1 s2 r1 r2 g q x : Int) : Int := (r1 + s1 * ((r2 - r1) / g * x)) % (q * s2)
theorem rest_ok {s1 s2 r1 r2 g q q2 x y : Int} (hg : 0 < g) (h1 : 0 < s1) (h2 : 0 < s2) (e1 : s1 = g * q) (e2 : s2 = g * q2) (bz : s1 * x + s2 * y = g) (hd : g ∣ r2 - r1) : s1 ∣ restOf s1 s2 r1 r2 g q x - r1 ∧ s2 ∣ restOf s1 s2 r1 r2 g q x - r2 := by
  obtain ⟨t, ht⟩ := hd
  have et : (r2 - r1) / g = t := by rw [ht, Int.mul_ediv_cancel_left _ (by omega)]
  unfold restOf
  rw [et]
  obtain ⟨c, hc⟩ : ∃ c, (r1 + s1 * (t * x)) % (q * s2) = r1 + s1 * (t * x) - q * s2 * c := ⟨(r1 + s1 * (t * x)) / (q * s2), by have := Int.emod_add_mul_ediv (r1 + s1 * (t * x)) (q * s2); omega⟩
  rw [hc]
  constructor
  · exact ⟨t * x - q2 * c, by rw [e1, e2]; grind⟩
  · refine ⟨- (t * y) - q * c, ?_⟩
    have a : s1 * (t * x) = t * (g - s2 * y) := by rw [← bz]; grind
    have b : r2 = r1 + g * t := by omega
    rw [a, b]
    grind
theorem meet_iff {s1 s2 r1 r2 g q q2 x y z : Int} (hg : 0 < g) (h1 : 0 < s1) (h2 : 0 < s2) (e1 : s1 = g * q) (e2 : s2 = g * q2) (bz : s1 * x + s2 * y = g) (a1 : 0 ≤ r1) (b1 : r1 < s1) (a2 : 0 ≤ r2) (b2 : r2 < s2) (hd : g ∣ r2 - r1) :
    (z % s1 = r1 ∧ z % s2 = r2) ↔ z % (q * s2) = restOf s1 s2 r1 r2 g q x := by
  obtain ⟨k1, k2⟩ := rest_ok hg h1 h2 e1 e2 bz hd
  have em1 : r1 % s1 = r1 := Int.emod_eq_of_lt a1 b1
  have em2 : r2 % s2 = r2 := Int.emod_eq_of_lt a2 b2
  have emr : restOf s1 s2 r1 r2 g q x % (q * s2) = restOf s1 s2 r1 r2 g q x := by unfold restOf; rw [Int.emod_emod_of_dvd _ (Int.dvd_refl _)]
  constructor
  · rintro ⟨c1, c2⟩
    rw [← emr]
    refine emod_of_dvd ((both_dvd (by omega) e1 e2 bz).mp ⟨?_, ?_⟩)
    · have d1 := dvd_of_emod (c1.trans em1.symm)
      have := Int.dvd_sub d1 k1
      rwa [show z - r1 - (restOf s1 s2 r1 r2 g q x - r1) = z - restOf s1 s2 r1 r2 g q x by omega] at this
    · have d1 := dvd_of_emod (c2.trans em2.symm)
      have := Int.dvd_sub d1 k2
      rwa [show z - r2 - (restOf s1 s2 r1 r2 g q x - r2) = z - restOf s1 s2 r1 r2 g q x by omega] at this
  · intro c
    rw [← emr] at c
    obtain ⟨d1, d2⟩ := (both_dvd (by omega) e1 e2 bz).mpr (dvd_of_emod c)
    constructor
    · rw [← em1]
      refine emod_of_dvd ?_
      have := Int.dvd_add d1 k1
      rwa [show z - restOf s1 s2 r1 r2 g q x + (restOf s1 s2 r1 r2 g q x - r1) = z - r1 by omega] at this
    · rw [← em2]
      refine emod_of_dvd ?_
      have := Int.dvd_add d2 k2
      rwa [show z - restOf s1 s2 r1 r2 g q x + (restOf s1 s2 r1 r2 g q x - r2) = z - r2 by omega] at this
theorem meet_none {s1 s2 r1 r2 g q q2 z : Int} (e1 : s1 = g * q) (e2 : s2 = g * q2) (a1 : 0 ≤ r1) (b1 : r1 < s1) (a2 : 0 ≤ r2) (b2 : r2 < s2) (hd : ¬ g ∣ r2 - r1) : ¬ (z % s1 = r1 ∧ z % s2 = r2) := by
  rintro ⟨c1, c2⟩
  apply hd
  have d1 := dvd_of_emod (c1.trans (Int.emod_eq_of_lt a1 b1).symm)
  have d2 := dvd_of_emod (c2.trans (Int.emod_eq_of_lt a2 b2).symm)
  have g1 : g ∣ z - r1 := Int.dvd_trans ⟨q, e1⟩ d1
  have g2 : g ∣ z - r2 := Int.dvd_trans ⟨q2, e2⟩ d2
  have := Int.dvd_sub g1 g2
  rwa [show z - r1 - (z - r2) = r2 - r1 by omega] at this
/-! ### bounds by digits -/
theorem log_lt {x : Int} {n : Nat} (h : x.natAbs < 2 ^ n) (hn : 0 < n) : x.natAbs.log2 < n := by
  by_cases hz : x.natAbs = 0
  · rw [hz]; exact hn
  · exact (Nat.log2_lt hz).mpr h
theorem okMul_of {i j : Int} {a b : Nat} (hi : i.natAbs < 2 ^ a) (hj : j.natAbs < 2 ^ b) (ha : 0 < a) (hb : 0 < b) (h : a + b ≤ 1000000) : PL.okMul i j = true := by
  unfold PL.okMul
  have := log_lt hi ha
  have := log_lt hj hb
  exact decide_eq_true (by omega)
theorem okDiv_of {j : Int} {b : Nat} (h0 : j ≠ 0) (hj : j.natAbs < 2 ^ b) (hb : 0 < b) (h : b ≤ 9000) : PL.okDiv j = true := by
  unfold PL.okDiv
  have := log_lt hj hb
  exact decide_eq_true ⟨h0, by omega⟩
end PN

/-! PS: what the defs of guards.py answer. -/
namespace PM
open PySem PySem.Spec PyProof.Rows L2 PL PN
theorem at0 (a : PV) (t : List PV) : atI (a :: t) 0 = some a := by simp [atI, ixN]
theorem at1 (a b : PV) (t : List PV) : atI (a :: b :: t) 1 = some b := by simp [atI, ixN]; rw [if_pos (by omega)]; rfl
theorem at2 (a b c : PV) (t : List PV) : atI (a :: b :: c :: t) 2 = some c := by simp [atI, ixN]; rw [if_pos (by omega)]; rfl
theorem at3 (a b c d : PV) (t : List PV) : atI (a :: b :: c :: d :: t) 3 = some d := by simp [atI, ixN]; rw [if_pos (by omega)]; rfl
local macro_rules | `(tactic| walk_at "ev") => `(tactic| simp only [mOf, endF, start0, gSeq, gNop, gAsg, gRet, gRetO, gAsgO, gDrop, gIf, gOpt, gPar, gPar3, gAug, aName, asNil, asCons, aTup, aLst, setV, setO, eVar, eC, eBin, eUn, eTup, aNil, aCons, oLst, frz, eCall, oCall, avN, avK, permL, lNil, lPv, lSl, tOf, tTru, tNt, tAn, tOrr, eIf, eAn, eOr, eNt, eChain, eCallB, eIxM, gSetIx, getM, pTru, pAdd, pSub, pMul, pFdiv, pMod, pPow, pNeg, pLt, pLe, pGt, pGe, pIs, pIsNot, pAddI, pIx, pLen, pAbs, pMax2, pMin2, Res.bind_ok, Res.bind_ex, Res.bind_stuck, Res.fl_ok, Res.fl_ex, Res.fl_stuck, Res.opt_some, Res.opt_none, lowerA, keyOf, getK, getAll, setAll, setK, distinct, List.map_cons, List.map_nil, List.length_cons, List.length_nil, List.replicate, List.cons_append, List.nil_append, List.append_nil, List.getElem?_cons_zero, List.getElem?_cons_succ, List.getElem?_nil, List.set_cons_zero, List.set_cons_succ, List.filterMap_cons, List.filterMap_nil, Option.bind_some, Option.map_some, Option.elim_some, if_true, if_false, Nat.reduceAdd, Nat.reduceSub, Nat.reduceEqDiff, Nat.reduceLeDiff, ↓reduceIte, Bool.false_eq_true, at0, at1, at2, at3, pEq, pNe, eqB_int, Option.some.injEq, decide_true, decide_false, not_true_eq_false, not_false_eq_true, Bool.and_true, ne_eq, reduceCtorEq, Bool.true_eq_false, Bool.not_true, Bool.not_false])
/-- a guard's tuple -/
abbrev gt (l h s r : Int) : PV := .tup [.int l, .int h, .int s, .int r]
theorem e_first_of (l h s r : Int) (hs : 0 < s) : m_first_of [.val (gt l h s r)] [] = .ok (.int (firstOf l s r)) [] := by
  unfold m_first_of g_first_of
  walk_at "ev"
  rw [if_pos (by omega)]
  simp only [Res.opt_some, Res.bind_ok, Res.fl_ok, Int.fmod_eq_emod_of_nonneg _ (show 0 ≤ s by omega), firstOf]
theorem max_if (a b : Int) : (if b > a then b else a) = max a b := by split <;> omega
theorem e_lanes_of (l h s r : Int) (hs : 0 < s) (hd : okDiv s = true) : m_lanes_of [.val (gt l h s r)] [] = .ok (.int (lanesOf l h s r)) [] := by
  unfold m_lanes_of g_lanes_of
  walk_at "ev"
  simp only [e_first_of l h s r hs]
  walk_at "ev"
  rw [if_pos hd]
  walk_at "ev"
  rw [Int.fdiv_eq_ediv_of_nonneg _ (by omega)]
  unfold lanesOf
  congr 1
  congr 1
  omega
theorem e_lane_at (l h s r k : Int) (hs : 0 < s) (hm : okMul s k = true) : m_lane_at [.val (gt l h s r), .val (.int k)] [] = .ok (.int (firstOf l s r + s * k)) [] := by
  unfold m_lane_at g_lane_at
  walk_at "ev"
  simp only [e_first_of l h s r hs]
  walk_at "ev"
  simp only [if_pos hm]
  walk_at "ev"
/-- is x a lane -/
def isLane (l h s r x : Int) : Bool := decide (l ≤ x ∧ x < h ∧ x % s = r)
theorem e_has (l h s r x : Int) (hs : 0 < s) : m_has [.val (gt l h s r), .val (.int x)] [] = .ok (.bl (isLane l h s r x)) [] := by
  unfold m_has g_has
  walk_at "ev"
  by_cases h1 : l ≤ x <;> by_cases h2 : x < h <;> by_cases h3 : x % s = r <;> simp [h1, h2, h3, isLane, pEq, eqB_int, show s ≠ 0 by omega, Int.fmod_eq_emod_of_nonneg _ (show 0 ≤ s by omega), pTru]
def isGuard (l h s r : Int) : Bool := decide (0 ≤ l ∧ l ≤ h ∧ 0 ≤ r ∧ r < s)
theorem e_is_guard (l h s r : Int) : m_is_guard [.val (gt l h s r)] [] = .ok (.bl (isGuard l h s r)) [] := by
  unfold m_is_guard g_is_guard
  walk_at "ev"
  by_cases h1 : 0 ≤ l <;> by_cases h2 : l ≤ h <;> by_cases h3 : 0 ≤ r <;> by_cases h4 : r < s <;> simp [h1, h2, h3, h4, isGuard, pTru]
theorem e_check_guard (l h s r : Int) (hg : isGuard l h s r = true) : m_check_guard [.val (gt l h s r)] [] = .ok .non [] := by
  unfold m_check_guard g_check_guard
  walk_at "ev"
  simp only [e_is_guard, hg]
  walk_at "ev"
theorem guard_iff {l h s r : Int} : isGuard l h s r = true ↔ 0 ≤ l ∧ l ≤ h ∧ 0 ≤ r ∧ r < s := by simp [isGuard]
theorem e_count (l h s r : Int) (hg : isGuard l h s r = true) (hd : okDiv s = true) : m_count_lanes [.val (gt l h s r)] [] = .ok (.int (lanesOf l h s r)) [] := by
  have g := guard_iff.mp hg
  unfold m_count_lanes g_count_lanes
  walk_at "ev"
  simp only [e_check_guard l h s r hg]
  walk_at "ev"
  simp only [e_lanes_of l h s r (by omega) hd]
  walk_at "ev"
theorem e_has_lane (l h s r x : Int) (hg : isGuard l h s r = true) : m_has_lane [.val (gt l h s r), .val (.int x)] [] = .ok (.bl (isLane l h s r x)) [] := by
  have g := guard_iff.mp hg
  unfold m_has_lane g_has_lane
  walk_at "ev"
  simp only [e_check_guard l h s r hg]
  walk_at "ev"
  simp only [e_has l h s r x (by omega)]
  walk_at "ev"
theorem e_nth (l h s r k : Int) (hg : isGuard l h s r = true) (hd : okDiv s = true) (h0 : 0 ≤ k) (h1 : k < lanesOf l h s r) (hm : okMul s k = true) : m_nth_lane [.val (gt l h s r), .val (.int k)] [] = .ok (.int (firstOf l s r + s * k)) [] := by
  have g := guard_iff.mp hg
  unfold m_nth_lane g_nth_lane
  walk_at "ev"
  simp only [e_check_guard l h s r hg]
  walk_at "ev"
  simp only [decide_eq_true h0, e_lanes_of l h s r (show 0 < s by omega) hd]
  walk_at "ev"
  simp only [decide_eq_true h1]
  walk_at "ev"
  simp only [e_lane_at l h s r k (by omega) hm]
  walk_at "ev"
end PM

/-! PS2: bezout, meeting, and what the laws draw. -/
namespace PM
open PySem PySem.Spec PyProof.Rows L2 PL PN
local macro_rules | `(tactic| walk_at "ev") => `(tactic| simp only [mOf, endF, start0, gSeq, gNop, gAsg, gRet, gRetO, gAsgO, gDrop, gIf, gOpt, gPar, gPar3, gAug, aName, asNil, asCons, aTup, aLst, setV, setO, eVar, eC, eBin, eUn, eTup, aNil, aCons, oLst, frz, eCall, oCall, avN, avK, permL, lNil, lPv, lSl, tOf, tTru, tNt, tAn, tOrr, eIf, eAn, eOr, eNt, eChain, eCallB, eIxM, gSetIx, getM, pTru, pAdd, pSub, pMul, pFdiv, pMod, pPow, pNeg, pLt, pLe, pGt, pGe, pIs, pIsNot, pAddI, pIx, pLen, pAbs, pMax2, pMin2, Res.bind_ok, Res.bind_ex, Res.bind_stuck, Res.fl_ok, Res.fl_ex, Res.fl_stuck, Res.opt_some, Res.opt_none, lowerA, keyOf, getK, getAll, setAll, setK, distinct, List.map_cons, List.map_nil, List.length_cons, List.length_nil, List.replicate, List.cons_append, List.nil_append, List.append_nil, List.getElem?_cons_zero, List.getElem?_cons_succ, List.getElem?_nil, List.set_cons_zero, List.set_cons_succ, List.filterMap_cons, List.filterMap_nil, Option.bind_some, Option.map_some, Option.elim_some, if_true, if_false, Nat.reduceAdd, Nat.reduceSub, Nat.reduceEqDiff, Nat.reduceLeDiff, ↓reduceIte, Bool.false_eq_true, at0, at1, at2, at3, pEq, pNe, eqB_int, Option.some.injEq, decide_true, decide_false, not_true_eq_false, not_false_eq_true, Bool.and_true, ne_eq, reduceCtorEq, Bool.true_eq_false, Bool.not_true, Bool.not_false])
noncomputable def l_bezout_1a : Stt → Res Bool := (tOf (eBin pNe (eVar 3) (eC (.int 0))))
noncomputable def l_bezout_1b : Stt → Fl := (gSeq (gAsg (eBin pFdiv (eVar 2) (eVar 3)) (aName 6)) (gSeq (gPar 2 3 (aCons (eVar 3) (aCons (eBin pSub (eVar 2) (eBin pMul (eVar 6) (eVar 3))) aNil))) (gSeq (gPar 4 5 (aCons (eVar 5) (aCons (eBin pSub (eVar 4) (eBin pMul (eVar 6) (eVar 5))) aNil))) gNop)))
theorem g_bezout_eq : g_bezout = (gSeq (gAsg (eTup (aCons (eVar 0) (aCons (eVar 1) (aCons (eC (.int 1)) (aCons (eC (.int 0)) aNil))))) (aTup 4 (asCons (aName 2) (asCons (aName 3) (asCons (aName 4) (asCons (aName 5) asNil)))))) (gSeq (gWhile l_bezout_1a l_bezout_1b) (gSeq (gRet (eIf (tOf (eBin pGe (eVar 2) (eC (.int 0)))) (eTup (aCons (eVar 2) (aCons (eVar 4) aNil))) (eTup (aCons (eUn pNeg (eVar 2)) (aCons (eUn pNeg (eVar 4)) aNil))))) gNop))) := rfl
noncomputable def l__law_source_1b : PV → Stt → Option Stt := (aName 3)
noncomputable def l__law_source_1c : Stt → Fl := (gSeq (gIf (tOf (eBin pGe (eCallB pAbs (aCons (eVar 3) aNil)) (eBin pPow (eC (.int 10)) (eC (.int 18))))) (gSeq (gAsg (eBin pAdd (eBin pMul (eVar 1) (eBin pPow (eC (.int 10)) (eC (.int 60)))) (eBin pMod (eCallB pAbs (aCons (eVar 3) aNil)) (eBin pPow (eC (.int 10)) (eC (.int 60))))) (aName 1)) gNop) gNop) (gSeq (gAsg (eBin pMod (eBin pAdd (eBin pAdd (eBin pMul (eVar 2) (eC (.int 6700417))) (eBin pMod (eVar 3) (eC (.int 2305843009213693921)))) (eC (.int 13))) (eC (.int 2305843009213693951))) (aName 2)) gNop))
theorem g__law_source_eq : g__law_source = (gSeq (gAsg (eTup (aCons (eC (.int 0)) (aCons (eC (.int 7368787)) aNil))) (aTup 2 (asCons (aName 1) (asCons (aName 2) asNil)))) (gSeq (gFor (iAny (eSl (eVar 0) pNo (pSo (eC (.int 63))))) l__law_source_1b l__law_source_1c) (gSeq (gRetO (oLst (aCons (eVar 1) (aCons (eVar 2) (aCons (eC (.int 0)) aNil))))) gNop))) := rfl
/-- what holds in the loop of bezout -/
structure BzInv (a b f s x y : Int) : Prop where
  f0 : 0 < f
  s0 : 0 ≤ s
  dv : ∀ d, d ∣ f → d ∣ s → d ∣ a ∧ d ∣ b
  u1 : ∃ u, f = a * x + b * u
  u2 : ∃ u, s = a * y + b * u
  sg : ∃ e X Y : Int, (e = 1 ∨ e = -1) ∧ x = e * X ∧ y = -(e * Y) ∧ 0 ≤ X ∧ 0 ≤ Y ∧ X ≤ b ∧ X * s + Y * f = b
theorem BzInv.next {a b f s x y : Int} (i : BzInv a b f s x y) (hs : 0 < s) : BzInv a b s (f - f / s * s) y (x - f / s * y) := by
  have hm : f - f / s * s = f % s := by rw [Int.emod_def, Int.mul_comm]
  have t0 : 0 ≤ f / s := Int.ediv_nonneg (Int.le_of_lt i.f0) i.s0
  refine ⟨hs, ?_, ?_, i.u2, ?_, ?_⟩
  · rw [hm]; exact Int.emod_nonneg _ (by omega)
  · intro d h1 h2
    refine i.dv d ?_ h1
    have : f = (f - f / s * s) + f / s * s := by omega
    rw [this]
    exact Int.dvd_add h2 ((show d ∣ f / s * s from Int.dvd_trans h1 (Int.dvd_mul_left _ _)))
  · obtain ⟨u, hu⟩ := i.u1
    obtain ⟨v, hv⟩ := i.u2
    refine ⟨u - f / s * v, ?_⟩
    generalize f / s = t at *
    subst hu hv
    grind
  · obtain ⟨e, X, Y, he, hx, hy, hX, hY, hb, hq⟩ := i.sg
    refine ⟨-e, Y, X + f / s * Y, by omega, by grind, ?_, hY, ?_, ?_, ?_⟩
    · generalize f / s = t at *
      subst hx hy
      grind
    · have := Int.mul_nonneg t0 hY; omega
    · have h1 : 0 ≤ X * s := Int.mul_nonneg hX i.s0
      have h2 : Y * 1 ≤ Y * f := Int.mul_le_mul_of_nonneg_left i.f0 hY
      omega
    · generalize f / s = t at *
      grind
theorem bz_loop (a b : Int) (hb : b.natAbs < 2 ^ 4000) : ∀ (n : Nat) (f s x y : Int) (w : Option SV), s.toNat < n → f.natAbs < 2 ^ 4000 → s.natAbs < 2 ^ 4000 → BzInv a b f s x y →
    ∃ g x' y' w', whileN l_bezout_1a l_bezout_1b n ⟨[some (.val (.int a)), some (.val (.int b)), some (.val (.int f)), some (.val (.int s)), some (.val (.int x)), some (.val (.int y)), w], []⟩ = .nx ⟨[some (.val (.int a)), some (.val (.int b)), some (.val (.int g)), some (.val (.int 0)), some (.val (.int x')), some (.val (.int y')), w'], []⟩ ∧ BzInv a b g 0 x' y' ∧ g.natAbs < 2 ^ 4000
  | 0, f, s, x, y, w, h, _, _, _ => by omega
  | n + 1, f, s, x, y, w, h, hf, hs, i => by
    have s0 := i.s0
    have f0 := i.f0
    unfold whileN
    by_cases z : s = 0
    · subst z
      refine ⟨f, x, y, w, ?_, i, hf⟩
      unfold l_bezout_1a
      walk_at "ev"
      simp
    · have hd : okDiv s = true := okDiv_of z hs (by decide) (by decide)
      have f1 : f / s ≤ f := Int.ediv_le_self s (Int.le_of_lt f0)
      have t0 : 0 ≤ f / s := Int.ediv_nonneg (Int.le_of_lt f0) s0
      have e1 : f.fdiv s = f / s := Int.fdiv_eq_ediv_of_nonneg _ s0
      obtain ⟨e, X, Y, he, hx, hy, hX, hY, hXb, hq⟩ := i.sg
      have hY2 : Y ≤ b := by
        have h1 : 0 ≤ X * s := Int.mul_nonneg hX i.s0
        have h2 : Y * 1 ≤ Y * f := Int.mul_le_mul_of_nonneg_left i.f0 hY
        omega
      have hyb : y.natAbs < 2 ^ 4000 := by
        have : y.natAbs ≤ b.natAbs := by rcases he with rfl | rfl <;> omega
        omega
      have m1 : okMul (f / s) s = true := okMul_of (a := 4000) (b := 4000) (by omega) hs (by decide) (by decide) (by decide)
      have m2 : okMul (f / s) y = true := okMul_of (a := 4000) (b := 4000) (by omega) hyb (by decide) (by decide) (by decide)
      have i2 := i.next (by omega)
      have hm : f - f / s * s = f % s := by rw [Int.emod_def, Int.mul_comm]
      have hl : f % s < s := Int.emod_lt_of_pos _ (by omega)
      have hn : 0 ≤ f % s := Int.emod_nonneg _ (by omega)
      obtain ⟨g, x', y', w', k1, k2, k3⟩ := bz_loop a b hb n s (f - f / s * s) y (x - f / s * y) (some (.val (.int (f / s)))) (by rw [hm]; omega) hs (by rw [hm]; omega) i2
      refine ⟨g, x', y', w', ?_, k2, k3⟩
      rw [← k1]
      unfold l_bezout_1a l_bezout_1b
      walk_at "ev"
      simp only [beq_eq_false_iff_ne.mpr z, if_pos hd, e1]
      walk_at "ev"
      simp only [if_pos m1]
      walk_at "ev"
      simp only [if_pos m2]
      walk_at "ev"
theorem e_bezout (a b : Int) (ha : 0 < a) (hb : 0 < b) (ha2 : a.natAbs < 2 ^ 4000) (hb2 : b.natAbs < 2 ^ 4000) : ∃ g x q q2 y, m_bezout [.val (.int a), .val (.int b)] [] = .ok (.tup [.int g, .int x]) [] ∧ 0 < g ∧ g.natAbs < 2 ^ 4000 ∧ x.natAbs < 2 ^ 4000 ∧ a = g * q ∧ b = g * q2 ∧ a * x + b * y = g := by
  have i0 : BzInv a b a b 1 0 := ⟨ha, Int.le_of_lt hb, fun d h1 h2 => ⟨h1, h2⟩, ⟨0, by omega⟩, ⟨1, by omega⟩, ⟨1, 1, 0, .inl rfl, by omega, by omega, by omega, by omega, by omega, by omega⟩⟩
  obtain ⟨g, x, y, w, k1, k2, k3⟩ := bz_loop a b hb2 (b.toNat + 1) a b 1 0 none (by omega) ha2 hb2 i0
  obtain ⟨d1, d2⟩ := k2.dv g (Int.dvd_refl g) (Int.dvd_zero g)
  obtain ⟨q, hq⟩ := d1
  obtain ⟨q2, hq2⟩ := d2
  obtain ⟨u, hu⟩ := k2.u1
  have g0 := k2.f0
  obtain ⟨e, X, Y, he, hx, hy, hX, hY, hXb, hz⟩ := k2.sg
  refine ⟨g, x, q, q2, u, ?_, g0, k3, ?_, hq, hq2, hu.symm⟩
  · unfold m_bezout
    rw [g_bezout_eq]
    walk_at "ev"
    rw [gWhile_eq k1 (by simp)]
    walk_at "ev"
    simp only [decide_eq_true (show (g : Int) ≥ 0 by omega)]
    walk_at "ev"
  · have : x.natAbs ≤ b.natAbs := by rcases he with rfl | rfl <;> omega
    omega
end PM

/-! PS3: meeting, met, and what the laws draw. -/
namespace PM
open PySem PySem.Spec PyProof.Rows L2 PL PN
theorem ix30 : ixN 3 0 = some 0 := by decide
theorem ix31 : ixN 3 1 = some 1 := by decide
theorem ix32 : ixN 3 2 = some 2 := by decide
local macro_rules | `(tactic| walk_at "ev") => `(tactic| try simp only [mOf, endF, start0, gSeq, gNop, gAsg, gRet, gRetO, gAsgO, gDrop, gIf, gOpt, gPar, gPar3, gAug, aName, asNil, asCons, aTup, aLst, setV, setO, eVar, eC, eBin, eUn, eTup, aNil, aCons, oLst, frz, eCall, oCall, avN, avK, permL, lNil, lPv, lSl, tOf, tTru, tNt, tAn, tOrr, eIf, eAn, eOr, eNt, eChain, eCallB, eIxM, gSetIx, getM, pTru, pAdd, pSub, pMul, pFdiv, pMod, pPow, pNeg, pLt, pLe, pGt, pGe, pIs, pIsNot, pAddI, pIx, pLen, pAbs, pMax2, pMin2, Res.bind_ok, Res.bind_ex, Res.bind_stuck, Res.fl_ok, Res.fl_ex, Res.fl_stuck, Res.opt_some, Res.opt_none, lowerA, keyOf, getK, getAll, setAll, setK, distinct, List.map_cons, List.map_nil, List.length_cons, List.length_nil, List.replicate, List.cons_append, List.nil_append, List.append_nil, List.getElem?_cons_zero, List.getElem?_cons_succ, List.getElem?_nil, List.set_cons_zero, List.set_cons_succ, List.filterMap_cons, List.filterMap_nil, Option.bind_some, Option.map_some, Option.elim_some, if_true, if_false, Nat.reduceAdd, Nat.reduceSub, Nat.reduceEqDiff, Nat.reduceLeDiff, ↓reduceIte, Bool.false_eq_true, at0, at1, at2, at3, pEq, pNe, eqB_int, Option.some.injEq, decide_true, decide_false, not_true_eq_false, not_false_eq_true, Bool.and_true, ne_eq, reduceCtorEq, Bool.true_eq_false, Bool.not_true, Bool.not_false])
local macro_rules | `(tactic| walk_at "evs") => `(tactic| simp only [*, mOf, endF, start0, gSeq, gNop, gAsg, gRet, gRetO, gAsgO, gDrop, gIf, gOpt, gPar, gPar3, gAug, aName, asNil, asCons, aTup, aLst, setV, setO, eVar, eC, eBin, eUn, eTup, aNil, aCons, oLst, frz, eCall, oCall, avN, avK, permL, lNil, lPv, lSl, tOf, tTru, tNt, tAn, tOrr, eIf, eAn, eOr, eNt, eChain, eCallB, eIxM, gSetIx, getM, pTru, pAdd, pSub, pMul, pFdiv, pMod, pPow, pNeg, pLt, pLe, pGt, pGe, pIs, pIsNot, pAddI, pIx, pLen, pAbs, pMax2, pMin2, Res.bind_ok, Res.bind_ex, Res.bind_stuck, Res.fl_ok, Res.fl_ex, Res.fl_stuck, Res.opt_some, Res.opt_none, lowerA, keyOf, getK, getAll, setAll, setK, distinct, List.map_cons, List.map_nil, List.length_cons, List.length_nil, List.replicate, List.cons_append, List.nil_append, List.append_nil, List.getElem?_cons_zero, List.getElem?_cons_succ, List.getElem?_nil, List.set_cons_zero, List.set_cons_succ, List.filterMap_cons, List.filterMap_nil, Option.bind_some, Option.map_some, Option.elim_some, if_true, if_false, Nat.reduceAdd, Nat.reduceSub, Nat.reduceEqDiff, Nat.reduceLeDiff, ↓reduceIte, Bool.false_eq_true, at0, at1, at2, at3, pEq, pNe, eqB_int, Option.some.injEq, decide_true, decide_false, not_true_eq_false, not_false_eq_true, Bool.and_true, ne_eq, reduceCtorEq, Bool.true_eq_false, Bool.not_true, Bool.not_false, eq_self, not_true_eq_false, not_false_eq_true, ix30, ix31, ix32])
/-- what meeting answers -/
def MeetIs (l1 h1 s1 r1 l2 h2 s2 r2 : Int) (m : PV) : Prop :=
  (m = .non ∧ ∀ z, max l1 l2 ≤ z → z < min h1 h2 → ¬ (z % s1 = r1 ∧ z % s2 = r2)) ∨
  ∃ t c, m = gt (max l1 l2) (min h1 h2) t c ∧ 0 < t ∧ 0 ≤ c ∧ c < t ∧ t.natAbs < 2 ^ 8000 ∧ (∀ z, (z % s1 = r1 ∧ z % s2 = r2) ↔ z % t = c) ∧ s1 ∣ t ∧ s2 ∣ t ∧ t ≤ s1 * s2 ∧ (∀ d, s1 ∣ d → s2 ∣ d → t ∣ d) ∧ 0 < lanesOf (max l1 l2) (min h1 h2) t c
theorem max_ifs (i j : Int) : (if j > i then j else i) = max i j := by split <;> omega
theorem min_ifs (i j : Int) : (if j < i then j else i) = min i j := by split <;> omega
theorem natAbs_mul_lt {a b : Int} {m n : Nat} (ha : a.natAbs < 2 ^ m) (hb : b.natAbs < 2 ^ n) : (a * b).natAbs < 2 ^ (m + n) := by
  rw [Int.natAbs_mul, Nat.pow_add]
  exact Nat.mul_lt_mul_of_lt_of_lt ha hb
theorem natAbs_ediv_le (a : Int) {g : Int} (hg : 0 < g) : (a / g).natAbs ≤ a.natAbs := by
  rcases Int.le_total 0 a with h | h
  · have h1 := Int.ediv_le_self g h
    have h2 := Int.ediv_nonneg h (Int.le_of_lt hg)
    omega
  · have h1 : a / g ≤ 0 := Int.ediv_le_of_le_mul hg (by omega)
    have h2 : a ≤ a / g := by
      refine (Int.le_ediv_iff_mul_le hg).mpr ?_
      have k : 0 ≤ (-a) * (g - 1) := Int.mul_nonneg (by omega) (by omega)
      have e : (-a) * (g - 1) = a - a * g := by grind
      omega
    omega
theorem e_meeting (l1 h1 s1 r1 l2 h2 s2 r2 : Int) (hs1 : 0 < s1) (hs2 : 0 < s2) (b1 : s1.natAbs < 2 ^ 4000) (b2 : s2.natAbs < 2 ^ 4000) (z1 : 0 ≤ r1) (y1 : r1 < s1) (z2 : 0 ≤ r2) (y2 : r2 < s2) :
    ∃ m, m_meeting [.val (gt l1 h1 s1 r1), .val (gt l2 h2 s2 r2)] [] = .ok m [] ∧ MeetIs l1 h1 s1 r1 l2 h2 s2 r2 m := by
  obtain ⟨g, x, q, q2, y, eb, g0, gb, xb, hq, hq2, bz⟩ := e_bezout s1 s2 hs1 hs2 b1 b2
  have hdg : okDiv g = true := okDiv_of (by omega) gb (by decide) (by decide)
  unfold m_meeting g_meeting
  walk_at "ev"
  simp only [eb]
  walk_at "ev"
  simp only [if_pos (show ¬ g = 0 by omega)]
  walk_at "ev"
  have gf : ∀ a : Int, a.fmod g = a % g := fun a => Int.fmod_eq_emod_of_nonneg _ (by omega)
  have gd : ∀ a : Int, a.fdiv g = a / g := fun a => Int.fdiv_eq_ediv_of_nonneg _ (by omega)
  simp only [gf, gd]
  by_cases hd : (r2 - r1) % g = 0
  · have hdv : g ∣ r2 - r1 := Int.dvd_of_emod_eq_zero hd
    have q0 : 0 < q := by
      rcases Int.lt_or_le 0 q with h | h
      · exact h
      · have : g * q ≤ g * 0 := Int.mul_le_mul_of_nonneg_left h (by omega)
        omega
    have e1 : s1 / g = q := by rw [hq, Int.mul_ediv_cancel_left _ (by omega)]
    have t0 : 0 < q * s2 := Int.mul_pos q0 hs2
    have qb : q.natAbs < 2 ^ 4000 := by have := natAbs_ediv_le s1 g0; rw [e1] at this; omega
    have tb := natAbs_mul_lt qb b2
    have m1 : okMul q s2 = true := okMul_of qb b2 (by decide) (by decide) (by decide)
    have ub : ((r2 - r1) / g).natAbs < 2 ^ 4001 := by
      have := natAbs_ediv_le (r2 - r1) g0
      have : (2 : Nat) ^ 4001 = 2 ^ 4000 + 2 ^ 4000 := by rw [Nat.pow_succ]; omega
      omega
    have m2 : okMul ((r2 - r1) / g) x = true := okMul_of ub xb (by decide) (by decide) (by decide)
    have m3 : okMul s1 ((r2 - r1) / g * x) = true := okMul_of b1 (natAbs_mul_lt ub xb) (by decide) (by decide) (by decide)
    have d1 : okDiv (q * s2) = true := okDiv_of (by omega) tb (by decide) (by decide)
    have fm : ∀ a : Int, a.fmod (q * s2) = a % (q * s2) := fun a => Int.fmod_eq_emod_of_nonneg _ (by omega)
    have e2 : (r1 + s1 * ((r2 - r1) / g * x)) % (q * s2) = restOf s1 s2 r1 r2 g q x := rfl
    have c0 : 0 ≤ restOf s1 s2 r1 r2 g q x := Int.emod_nonneg _ (by omega)
    have c1 : restOf s1 s2 r1 r2 g q x < q * s2 := Int.emod_lt_of_pos _ t0
    have el := e_lanes_of (max l1 l2) (min h1 h2) (q * s2) (restOf s1 s2 r1 r2 g q x) t0 d1
    have iff1 := fun z => meet_iff (z := z) g0 hs1 hs2 hq hq2 bz z1 y1 z2 y2 hdv
    simp only [hd, beq_self_eq_true, e1]
    walk_at "ev"
    simp only [if_pos hdg, gd, e1]
    walk_at "ev"
    simp only [if_pos m1]
    walk_at "ev"
    simp only [if_pos hdg, gd]
    walk_at "ev"
    simp only [if_pos m2]
    walk_at "ev"
    simp only [if_pos m3]
    walk_at "ev"
    simp only [if_pos (show ¬ q * s2 = 0 by omega), fm, e2, max_ifs, min_ifs]
    walk_at "ev"
    simp only [el]
    generalize restOf s1 s2 r1 r2 g q x = c at *
    by_cases hl : max l1 l2 < min h1 h2 ∧ lanesOf (max l1 l2) (min h1 h2) (q * s2) c > 0
    · refine ⟨gt (max l1 l2) (min h1 h2) (q * s2) c, ?_, .inr ⟨q * s2, c, rfl, t0, c0, c1, tb, iff1, ⟨q2, by rw [hq, hq2]; grind⟩, ⟨q, by grind⟩, ?_, ?_, hl.2⟩⟩
      · simp only [decide_eq_true hl.1]
        walk_at "ev"
        simp only [decide_eq_true hl.2]
        walk_at "ev"
      · refine Int.mul_le_mul_of_nonneg_right ?_ (by omega)
        rw [hq]
        have := Int.mul_le_mul_of_nonneg_right (show (1 : Int) ≤ g by omega) (Int.le_of_lt q0)
        omega
      · exact fun d k1 k2 => (both_dvd (by omega) hq hq2 bz).mp ⟨k1, k2⟩
    · refine ⟨.non, ?_, .inl ⟨rfl, fun z k1 k2 k3 => hl ⟨by omega, ?_⟩⟩⟩
      · by_cases k : max l1 l2 < min h1 h2
        · simp only [decide_eq_true k]
          walk_at "ev"
          simp only [decide_eq_false (fun k2 => hl ⟨k, k2⟩)]
          walk_at "ev"
        · simp only [decide_eq_false k]
          walk_at "ev"
      · have := (lane_iff (l := max l1 l2) (h := min h1 h2) (x := z) t0 c0 c1).mp ⟨k1, k2, (iff1 z).mp k3⟩
        obtain ⟨k, a, b, _⟩ := this
        omega
  · refine ⟨.non, ?_, .inl ⟨rfl, fun z _ _ => meet_none hq hq2 z1 y1 z2 y2 fun h => hd (Int.emod_eq_zero_of_dvd h)⟩⟩
    simp only [beq_eq_false_iff_ne.mpr hd]
    walk_at "ev"
theorem e_met (l1 h1 s1 r1 l2 h2 s2 r2 : Int) (g1 : isGuard l1 h1 s1 r1 = true) (g2 : isGuard l2 h2 s2 r2 = true) (b1 : s1.natAbs < 2 ^ 4000) (b2 : s2.natAbs < 2 ^ 4000) :
    ∃ m, m_met [.val (gt l1 h1 s1 r1), .val (gt l2 h2 s2 r2)] [] = .ok m [] ∧ MeetIs l1 h1 s1 r1 l2 h2 s2 r2 m := by
  have k1 := guard_iff.mp g1
  have k2 := guard_iff.mp g2
  obtain ⟨m, em, hm⟩ := e_meeting l1 h1 s1 r1 l2 h2 s2 r2 (by omega) (by omega) b1 b2 (by omega) (by omega) (by omega) (by omega)
  refine ⟨m, ?_, hm⟩
  unfold m_met g_met
  walk_at "ev"
  simp only [e_check_guard _ _ _ _ g1, e_check_guard _ _ _ _ g2]
  walk_at "ev"
  simp only [e_check_guard _ _ _ _ g1, e_check_guard _ _ _ _ g2, em]
  walk_at "ev"
  simp only [em]
  walk_at "ev"
/-! ### what the laws draw -/
def Src (n : Nat) (m : MO) : Prop := ∃ a b c : Int, m = .lst [.int a, .int b, .int c] ∧ 0 ≤ a ∧ a.natAbs < 2 ^ 13000 ∧ 0 ≤ b ∧ b < 2305843009213693951 ∧ 0 ≤ c ∧ c ≤ n
theorem Src.mono {n k : Nat} {m : MO} (h : Src n m) (hk : n ≤ k) : Src k m := by
  obtain ⟨a, b, c, h1, h2, h3, h4, h5, h6, h7⟩ := h
  exact ⟨a, b, c, h1, h2, h3, h4, h5, h6, by omega⟩
theorem okPow3 {x : Int} {n : Nat} (h : x.natAbs < 2 ^ n) (hn : n ≤ 300000) (h0 : 0 < n) : okPow x 3 = true := by
  unfold okPow
  have := log_lt h h0
  exact decide_eq_true ⟨by decide, by show (x.natAbs.log2 + 1) * 3 ≤ 1000000; omega⟩
def mix1 (b c : Int) : Int := ((b + 179424673 * c) ^ (Int.toNat 3)).fmod 162259276829213363391578010288127
def mix2 (b c : Int) : Int := ((mix1 b c + 86028157 * c) ^ (Int.toNat 3)).fmod 170141183460469231731687303715884105727
theorem e_draw0 (a b c many : Int) (ha : decide (a > 0) = true) (hz : (many = 0) = False) (hd : okDiv many = true) :
    m__law_draw [.bor 0, .val (.int many)] [.lst [.int a, .int b, .int c]] = .ok (.int (a.fmod many)) [.lst [.int (a.fdiv many), .int b, .int c]] := by
  unfold m__law_draw g__law_draw
  iterate 6 (walk_at "ev"; try walk_at "evs")
theorem e_draw1 (a b c many : Int) (ha : decide (a > 0) = false) (hz : (many = 0) = False) (k1 : okMul 179424673 (c + 1) = true) (k2 : okPow (b + 179424673 * (c + 1)) 3 = true) (z1 : ((162259276829213363391578010288127 : Int) = 0) = False) (k3 : okMul 86028157 (c + 1) = true)
    (k4 : okPow (mix1 b (c + 1) + 86028157 * (c + 1)) 3 = true) (z2 : ((170141183460469231731687303715884105727 : Int) = 0) = False) (k5 : okDiv 2097152 = true) (e1 : ((b + 179424673 * (c + 1)) ^ (Int.toNat 3)).fmod 162259276829213363391578010288127 = mix1 b (c + 1)) (e2 : ((mix1 b (c + 1) + 86028157 * (c + 1)) ^ (Int.toNat 3)).fmod 170141183460469231731687303715884105727 = mix2 b (c + 1)) :
    m__law_draw [.bor 0, .val (.int many)] [.lst [.int a, .int b, .int c]] = .ok (.int (((mix2 b (c + 1)).fdiv 2097152).fmod many)) [.lst [.int a, .int b, .int (c + 1)]] := by
  unfold m__law_draw g__law_draw
  iterate 10 (walk_at "ev"; try walk_at "evs")
theorem e_draw {n : Nat} {m : MO} (h : Src n m) (hn : n < 2 ^ 60) (many : Int) (h0 : 0 < many) (hb : many.natAbs < 2 ^ 8000) :
    ∃ d m', m__law_draw [.bor 0, .val (.int many)] [m] = .ok (.int d) [m'] ∧ 0 ≤ d ∧ d < many ∧ Src (n + 1) m' := by
  obtain ⟨a, b, c, rfl, a0, ab, b0, bb, c0, cb⟩ := h
  have hd : okDiv many = true := okDiv_of (by omega) hb (by decide) (by decide)
  by_cases ha : 0 < a
  · refine ⟨_, _, e_draw0 a b c many (decide_eq_true ha) (by simp; omega) hd, ?_⟩
    rw [Int.fmod_eq_emod_of_nonneg _ (by omega), Int.fdiv_eq_ediv_of_nonneg _ (by omega)]
    refine ⟨Int.emod_nonneg _ (by omega), Int.emod_lt_of_pos _ h0, a / many, b, c, rfl, Int.ediv_nonneg a0 (by omega), ?_, b0, bb, c0, by omega⟩
    have := natAbs_ediv_le a h0
    omega
  · have e1 : 0 ≤ mix1 b (c + 1) ∧ mix1 b (c + 1) < 162259276829213363391578010288127 := ⟨Int.fmod_nonneg_of_pos _ (by decide), Int.fmod_lt_of_pos _ (by decide)⟩
    refine ⟨_, _, e_draw1 a b c many (decide_eq_false ha) (by simp; omega) ?_ ?_ (by simp) ?_ ?_ (by simp) (by decide +kernel) rfl rfl, ?_⟩
    · exact okMul_of (i := 179424673) (j := c + 1) (a := 30) (b := 70) (by decide) (by omega) (by decide) (by decide) (by decide)
    · exact okPow3 (n := 200) (by omega) (by decide) (by decide)
    · exact okMul_of (i := 86028157) (j := c + 1) (a := 30) (b := 70) (by decide) (by omega) (by decide) (by decide) (by decide)
    · exact okPow3 (n := 200) (by omega) (by decide) (by decide)
    · rw [Int.fmod_eq_emod_of_nonneg _ (by omega)]
      exact ⟨Int.emod_nonneg _ (by omega), Int.emod_lt_of_pos _ h0, a, b, c + 1, rfl, a0, ab, b0, bb, by omega, by omega⟩
end PM

/-! PS4: the source of what the laws draw. -/
namespace PM
open PySem PySem.Spec PyProof.Rows L2 PL PN
local macro_rules | `(tactic| walk_at "ev") => `(tactic| try simp only [mOf, endF, start0, gSeq, gNop, gAsg, gRet, gRetO, gAsgO, gDrop, gIf, gOpt, gPar, gPar3, gAug, aName, asNil, asCons, aTup, aLst, setV, setO, eVar, eC, eBin, eUn, eTup, aNil, aCons, oLst, frz, eCall, oCall, avN, avK, permL, lNil, lPv, lSl, tOf, tTru, tNt, tAn, tOrr, eIf, eAn, eOr, eNt, eChain, eCallB, eIxM, gSetIx, getM, pTru, pAdd, pSub, pMul, pFdiv, pMod, pPow, pNeg, pLt, pLe, pGt, pGe, pIs, pIsNot, pAddI, pIx, pLen, pAbs, pMax2, pMin2, Res.bind_ok, Res.bind_ex, Res.bind_stuck, Res.fl_ok, Res.fl_ex, Res.fl_stuck, Res.opt_some, Res.opt_none, lowerA, keyOf, getK, getAll, setAll, setK, distinct, List.map_cons, List.map_nil, List.length_cons, List.length_nil, List.replicate, List.cons_append, List.nil_append, List.append_nil, List.getElem?_cons_zero, List.getElem?_cons_succ, List.getElem?_nil, List.set_cons_zero, List.set_cons_succ, List.filterMap_cons, List.filterMap_nil, Option.bind_some, Option.map_some, Option.elim_some, if_true, if_false, Nat.reduceAdd, Nat.reduceSub, Nat.reduceEqDiff, Nat.reduceLeDiff, ↓reduceIte, Bool.false_eq_true, at0, at1, at2, at3, pEq, pNe, eqB_int, Option.some.injEq, decide_true, decide_false, not_true_eq_false, not_false_eq_true, Bool.and_true, ne_eq, reduceCtorEq, Bool.true_eq_false, Bool.not_true, Bool.not_false])
local macro_rules | `(tactic| walk_at "evs") => `(tactic| simp only [*, mOf, endF, start0, gSeq, gNop, gAsg, gRet, gRetO, gAsgO, gDrop, gIf, gOpt, gPar, gPar3, gAug, aName, asNil, asCons, aTup, aLst, setV, setO, eVar, eC, eBin, eUn, eTup, aNil, aCons, oLst, frz, eCall, oCall, avN, avK, permL, lNil, lPv, lSl, tOf, tTru, tNt, tAn, tOrr, eIf, eAn, eOr, eNt, eChain, eCallB, eIxM, gSetIx, getM, pTru, pAdd, pSub, pMul, pFdiv, pMod, pPow, pNeg, pLt, pLe, pGt, pGe, pIs, pIsNot, pAddI, pIx, pLen, pAbs, pMax2, pMin2, Res.bind_ok, Res.bind_ex, Res.bind_stuck, Res.fl_ok, Res.fl_ex, Res.fl_stuck, Res.opt_some, Res.opt_none, lowerA, keyOf, getK, getAll, setAll, setK, distinct, List.map_cons, List.map_nil, List.length_cons, List.length_nil, List.replicate, List.cons_append, List.nil_append, List.append_nil, List.getElem?_cons_zero, List.getElem?_cons_succ, List.getElem?_nil, List.set_cons_zero, List.set_cons_succ, List.filterMap_cons, List.filterMap_nil, Option.bind_some, Option.map_some, Option.elim_some, if_true, if_false, Nat.reduceAdd, Nat.reduceSub, Nat.reduceEqDiff, Nat.reduceLeDiff, ↓reduceIte, Bool.false_eq_true, at0, at1, at2, at3, pEq, pNe, eqB_int, Option.some.injEq, decide_true, decide_false, not_true_eq_false, not_false_eq_true, Bool.and_true, ne_eq, reduceCtorEq, Bool.true_eq_false, Bool.not_true, Bool.not_false, eq_self, not_true_eq_false, not_false_eq_true, ix30, ix31, ix32])
theorem sIx_len (n : Nat) : HT.sIx n n (some 63) = min n 63 := by
  unfold HT.sIx
  simp
  try omega
theorem cut63 (l : List PV) (h : l.length ≤ 63) : pCut l none (some 63) = l := by
  unfold pCut
  rw [sIx_len]
  have : HT.sIx l.length 0 none = 0 := by unfold HT.sIx; simp
  rw [this, List.drop_zero, Nat.sub_zero, Nat.min_eq_left h, List.take_length]
def absI (x : Int) : Int := if x < 0 then -x else x
theorem src_step (a b x : Int) (w : Option SV) (l : PV)
    (k1 : okPow 10 18 = true) (k2 : okPow 10 60 = true) (k3 : okMul a (10 ^ Int.toNat 60) = true) (k4 : okMul b 6700417 = true) (z1 : ((10 : Int) ^ Int.toNat 60 = 0) = False) (z2 : ((2305843009213693921 : Int) = 0) = False) (z3 : ((2305843009213693951 : Int) = 0) = False) (ab : (if x < 0 then -x else x) = absI x) (d : Bool) (hd : decide (absI x ≥ 10 ^ Int.toNat 18) = d) :
    l__law_source_1c ⟨[some (.val l), some (.val (.int a)), some (.val (.int b)), some (.val (.int x))], []⟩ = .nx ⟨[some (.val l), some (.val (.int (if d = true then a * 10 ^ Int.toNat 60 + (absI x).fmod (10 ^ Int.toNat 60) else a))), some (.val (.int ((b * 6700417 + x.fmod 2305843009213693921 + 13).fmod 2305843009213693951))), some (.val (.int x))], []⟩ := by
  unfold l__law_source_1c
  cases d <;> iterate 8 (walk_at "ev"; try walk_at "evs")
theorem pow60 {i : Nat} (h : i ≤ 63) : ((10 : Int) ^ 60) ^ i ≤ (10 ^ 60) ^ 63 := by
  have : ((10 ^ 60) ^ i : Nat) ≤ (10 ^ 60) ^ 63 := Nat.pow_le_pow_right (by decide) h
  exact_mod_cast this
theorem pow63 : ((10 : Int) ^ 60) ^ 63 < 2 ^ 13000 := by decide +kernel
theorem small_of {a : Int} {i : Nat} (h : i ≤ 63) (a0 : 0 ≤ a) (ab : a < (10 ^ 60) ^ i) : a.natAbs < 2 ^ 13000 := by
  have h2 := pow60 h
  have h3 := pow63
  have h4 : (2 : Int) ^ 13000 = ((2 ^ 13000 : Nat) : Int) := by norm_cast
  omega
theorem e_source (ns : List Int) (h : ns.length ≤ 63) : ∃ m, m__law_source [.val (scrOf ns)] [] = .own m [] ∧ Src 0 m := by
  have key := forL_inv (a := l__law_source_1b) (b := l__law_source_1c) (fun i s => ∃ (a b : Int) (w : Option SV), s = ⟨[some (.val (scrOf ns)), some (.val (.int a)), some (.val (.int b)), w], []⟩ ∧ 0 ≤ a ∧ (i ≤ 63 → a < (10 ^ 60) ^ i) ∧ 0 ≤ b ∧ b < 2305843009213693951) (ns.map PV.int) 0 ⟨[some (.val (scrOf ns)), some (.val (.int 0)), some (.val (.int 7368787)), none], []⟩ ⟨0, 7368787, none, rfl, by omega, fun _ => by decide, by omega, by omega⟩ ?_
  · obtain ⟨s2, e2, a, b, w, rfl, a0, ab, b0, bb⟩ := key
    have ab2 := ab (by simpa using h)
    refine ⟨.lst [.int a, .int b, .int 0], ?_, a, b, 0, rfl, a0, ?_, b0, bb, by omega, by omega⟩
    · unfold m__law_source
      rw [g__law_source_eq]
      have cl := cut63 (ns.map PV.int) (by simpa using h)
      walk_at "ev"
      simp only [gFor, iAny, eSl, pNo, pSo, eVar, eC, Res.bind_ok, Res.fl_ok, List.getElem?_cons_zero, scrOf, cl]
      simp only [scrOf] at e2
      rw [e2]
      walk_at "ev"
    · exact small_of (i := 0 + (ns.map PV.int).length) (by simpa using h) a0 ab2
  · rintro i p s hp ⟨a, b, w, rfl, a0, ab, b0, bb⟩
    obtain ⟨x, hx, rfl⟩ := List.mem_map.mp (List.mem_of_getElem? hp)
    have hi : 0 + i ≤ 63 := by
      have := (List.getElem?_eq_some_iff.mp hp).1
      rw [List.length_map] at this
      omega
    refine ⟨_, rfl, _, .inl (src_step a b x w (scrOf ns) (by decide +kernel) (by decide +kernel) ?_ ?_ (by simp) (by simp) (by simp) rfl _ rfl), ?_⟩
    · exact okMul_of (a := 13000) (b := 200) (small_of hi a0 (ab hi)) (by decide) (by decide) (by decide) (by decide)
    · exact okMul_of (a := 62) (b := 23) (by omega) (by decide) (by decide) (by decide) (by decide)
    · have q1 : 0 ≤ (absI x).fmod (10 ^ Int.toNat 60) := Int.fmod_nonneg_of_pos _ (by decide)
      have q2 : (absI x).fmod (10 ^ Int.toNat 60) < 10 ^ 60 := Int.fmod_lt_of_pos _ (by decide)
      have e6 : (10 : Int) ^ Int.toNat 60 = 10 ^ 60 := rfl
      refine ⟨_, _, _, rfl, ?_, fun h63 => ?_, Int.fmod_nonneg_of_pos _ (by decide), Int.fmod_lt_of_pos _ (by decide)⟩
      · split
        · exact Int.add_nonneg (Int.mul_nonneg a0 (by decide)) q1
        · exact a0
      · have a1 := ab hi
        rw [Int.pow_succ]
        have e7 : (a + 1) * 10 ^ 60 ≤ (10 ^ 60) ^ (0 + i) * 10 ^ 60 := Int.mul_le_mul_of_nonneg_right (by omega) (by decide)
        rw [Int.add_mul, Int.one_mul] at e7
        split
        · rw [e6] at q2 ⊢
          omega
        · have : a * 1 ≤ a * 10 ^ 60 := Int.mul_le_mul_of_nonneg_left (by decide) a0
          omega
end PM

/-! PLE: more about the mirrors' words. -/
namespace PL
open PySem PySem.Spec PyProof.Rows L2
theorem Rk.same {p : PV} {n k : Nat} (h : Rk p n k) (hn : n ≤ 16777216) (hk : k ≤ 30) : ∃ x, pRepr [p] = some (.str x) ∧ pEqB (.str x) (.str x) = some true := by
  obtain ⟨x, hx⟩ := h.repr hn hk
  refine ⟨x, hx, ?_⟩
  obtain ⟨d, h1, h2, h3, h4, h5, h6, h7⟩ := h.ex
  have e : x = d.shown := by
    unfold pRepr at hx
    simp only [h1] at hx
    split at hx
    · simp at hx; exact hx.symm
    · cases hx
  have hs : PyData.strOk x = true := by rw [e]; exact h7
  unfold pEqB
  simp [toD, SeqAt.shaped, PyData.canLay0, PyData.depth, PyData.eqv, hs]
theorem inR_of {i : Int} (h : -1000000000 ≤ i ∧ i ≤ 1000000000) : inR i = true := by
  rw [inR_def]
  exact decide_eq_true (by omega)
theorem rng_seqI (l h : Int) : rng l (h - l).toNat = (PN.seqI l h).map PV.int := by
  unfold rng PN.seqI
  rw [List.map_map]
  rfl
theorem rng_nat (n : Nat) : rng 0 n = (List.range n).map fun i : Nat => PV.int i := by
  unfold rng
  refine List.map_congr_left fun i _ => ?_
  simp
theorem filterMap_some' {α β : Type} (f : α → β) (l : List α) : l.filterMap (fun x => some (f x)) = l.map f := by
  induction l with
  | nil => rfl
  | cons x r ih => simp [ih]
/-- the first of what is kept -/
theorem filterMap_first {α β : Type} {f : α → Option β} {z : β} : ∀ {l1 : List α} {x : α} {l2 : List α}, (∀ y ∈ l1, f y = none) → f x = some z → (l1 ++ x :: l2).filterMap f = z :: l2.filterMap f
  | [], x, l2, _, h => by rw [List.nil_append, List.filterMap_cons, h]
  | y :: l1, x, l2, h1, h => by
    rw [List.cons_append, List.filterMap_cons, h1 y List.mem_cons_self]
    exact filterMap_first (fun w hw => h1 w (List.mem_cons_of_mem _ hw)) h
theorem range_split (n k : Nat) (h : k < n) : ∃ r, List.range n = List.range k ++ k :: r := by
  obtain ⟨m, rfl⟩ : ∃ m, n = k + 1 + m := ⟨n - (k + 1), by omega⟩
  induction m with
  | zero => exact ⟨[], by rw [Nat.add_zero, List.range_succ]⟩
  | succ m ih =>
    obtain ⟨r, hr⟩ := ih (by omega)
    exact ⟨r ++ [k + 1 + m], by rw [← Nat.add_assoc, List.range_succ, hr]; simp⟩
theorem atI_at {l : List PV} {i : Nat} {p : PV} (h : l[i]? = some p) : atI l i = some p := by
  have hi := (List.getElem?_eq_some_iff.mp h).1
  simp only [atI, ixN]
  rw [if_pos (by omega)]
  simp only [if_pos (show (i : Int) < (l.length : Int) by omega), Option.bind_some, Int.toNat_natCast, h]
theorem atI_last {l : List PV} {p : PV} (h : l[l.length - 1]? = some p) : atI l (-1) = some p := by
  have hl := (List.getElem?_eq_some_iff.mp h).1
  simp only [atI, ixN]
  rw [if_neg (by omega), if_pos (by omega)]
  simp only [Option.bind_some]
  rw [show ((-1 : Int) + l.length).toNat = l.length - 1 by omega, h]
end PL

/-! PQN: lengths without conflicts: the plain law. -/
namespace PN
/-- how many neighbours of a row have different banks -/
def spread (b l : Int) : Int := b / (Int.gcd l b : Int)
def fr (w b l : Int) : Bool := decide (w ≤ spread b l)
theorem gcd_of {a b g q q2 x y : Int} (h0 : 0 < g) (h1 : a = g * q) (h2 : b = g * q2) (h3 : a * x + b * y = g) : (Int.gcd a b : Int) = g := by
  refine Int.dvd_antisymm (Int.natCast_nonneg _) (Int.le_of_lt h0) ?_ (Int.dvd_coe_gcd ⟨q, h1⟩ ⟨q2, h2⟩)
  rw [← h3]
  exact Int.dvd_add (Int.dvd_trans (Int.gcd_dvd_left ..) (Int.dvd_mul_right _ _)) (Int.dvd_trans (Int.gcd_dvd_right ..) (Int.dvd_mul_right _ _))
theorem gcd_period (l b k : Int) : Int.gcd (l + b * k) b = Int.gcd l b := by
  have h : (Int.gcd (l + b * k) b : Int) = (Int.gcd l b : Int) := by
    refine Int.dvd_antisymm (Int.natCast_nonneg _) (Int.natCast_nonneg _) (Int.dvd_coe_gcd ?_ (Int.gcd_dvd_right ..)) (Int.dvd_coe_gcd ?_ (Int.gcd_dvd_right ..))
    · have h1 : (Int.gcd (l + b * k) b : Int) ∣ l + b * k := Int.gcd_dvd_left ..
      have h2 : (Int.gcd (l + b * k) b : Int) ∣ b * k := Int.dvd_trans (Int.gcd_dvd_right ..) (Int.dvd_mul_right _ _)
      have := Int.dvd_sub h1 h2
      rwa [Int.add_sub_cancel] at this
    · exact Int.dvd_add (Int.gcd_dvd_left ..) (Int.dvd_trans (Int.gcd_dvd_right ..) (Int.dvd_mul_right _ _))
  omega
theorem gcd_mod (l b : Int) : Int.gcd (l % b) b = Int.gcd l b := by
  rw [Int.emod_def, show l - b * (l / b) = l + b * (-(l / b)) by rw [Int.mul_neg]; omega, gcd_period]
theorem fr_period (w b l k : Int) : fr w b (l + b * k) = fr w b l := by unfold fr spread; rw [gcd_period]
theorem gcd_pos {l b : Int} (h : 0 < b) : 0 < (Int.gcd l b : Int) := by
  have h1 : (Int.gcd l b : Int) ∣ b := Int.gcd_dvd_right ..
  have h2 : 0 ≤ (Int.gcd l b : Int) := Int.natCast_nonneg _
  rcases Int.lt_or_le 0 (Int.gcd l b : Int) with z | z
  · exact z
  · have : (Int.gcd l b : Int) = 0 := by omega
    rw [this] at h1
    obtain ⟨c, hc⟩ := h1
    rw [Int.zero_mul] at hc
    omega
theorem spread_pos {l b : Int} (h : 0 < b) : 0 < spread b l := by
  unfold spread
  have g := gcd_pos (l := l) h
  have : (Int.gcd l b : Int) ≤ b := Int.le_of_dvd h (Int.gcd_dvd_right ..)
  exact Int.ediv_pos_of_pos_of_dvd h (by omega) (Int.gcd_dvd_right ..)
theorem spread_le {l b : Int} (h : 0 < b) : spread b l ≤ b := by
  unfold spread
  exact Int.ediv_le_self _ (by omega)
theorem spread_mul {l b : Int} : (Int.gcd l b : Int) * spread b l = b := Int.mul_ediv_cancel' (Int.gcd_dvd_right ..)
theorem degree_one {m t : Int} (hm : 0 < m) (ht : 0 < t) : (m + t - 1) / t = 1 ↔ m ≤ t := by
  constructor
  · intro h
    rcases Int.lt_or_le t m with z | z
    · have : 2 ≤ (m + t - 1) / t := (Int.le_ediv_iff_mul_le ht).mpr (by omega)
      omega
    · exact z
  · intro h
    have h1 : 1 ≤ (m + t - 1) / t := (Int.le_ediv_iff_mul_le ht).mpr (by omega)
    have h2 : (m + t - 1) / t < 2 := (Int.ediv_lt_iff_lt_mul ht).mpr (by omega)
    omega
/-- each number once -/
theorem once_len (ns : List Int) : ∀ acc : List Int, (ns.foldl PyProof.Rows.step_dedup acc).length ≤ acc.length + ns.length ∧ ((ns.foldl PyProof.Rows.step_dedup acc).length = acc.length + ns.length ↔ ns.Nodup ∧ ∀ x ∈ ns, x ∉ acc) := by
  induction ns with
  | nil => intro acc; simp
  | cons n r ih =>
    intro acc
    simp only [List.foldl_cons, List.length_cons, List.nodup_cons, List.mem_cons, forall_eq_or_imp]
    by_cases h : n ∈ acc
    · have e : PyProof.Rows.step_dedup acc n = acc := by
        unfold PyProof.Rows.step_dedup
        rw [if_pos]
        exact List.any_eq_true.mpr ⟨n, h, by simp⟩
      rw [e]
      obtain ⟨h1, h2⟩ := ih acc
      refine ⟨by omega, ⟨fun z => by omega, fun z => absurd h z.2.1⟩⟩
    · have e : PyProof.Rows.step_dedup acc n = acc ++ [n] := by
        unfold PyProof.Rows.step_dedup
        rw [if_neg]
        intro z
        obtain ⟨y, h1, h2⟩ := List.any_eq_true.mp z
        have : y = n := by simpa using h2
        exact h (this ▸ h1)
      rw [e]
      obtain ⟨h1, h2⟩ := ih (acc ++ [n])
      rw [List.length_append, List.length_singleton] at h1 h2
      refine ⟨by omega, ?_⟩
      rw [show acc.length + (r.length + 1) = acc.length + 1 + r.length by omega, h2]
      simp only [List.mem_append, List.mem_singleton, not_or]
      constructor
      · rintro ⟨a, b⟩
        exact ⟨⟨fun z => (b n z).2 rfl, a⟩, h, fun x hx => (b x hx).1⟩
      · rintro ⟨⟨a, b⟩, _, c⟩
        exact ⟨b, fun x hx => ⟨c x hx, fun z => a (z ▸ hx)⟩⟩
theorem once_nodup (ns : List Int) : (PL.onceI ns).length = ns.length ↔ ns.Nodup := by
  have := (once_len ns []).2
  simp only [List.length_nil, Nat.zero_add, List.not_mem_nil, not_false_eq_true, implies_true, and_true] at this
  exact this
/-- the lanes of a wave in different banks -/
theorem free_iff {b l : Int} (n : Nat) (hb : 0 < b) : ((List.range n).map fun i : Nat => l * (i : Int) % b).Nodup ↔ (n : Int) ≤ spread b l := by
  have hs := spread_pos (l := l) hb
  constructor
  · intro h
    rcases Int.lt_or_le (spread b l) n with z | z
    · exfalso
      obtain ⟨t, ht⟩ := Int.eq_ofNat_of_zero_le (Int.le_of_lt hs)
      have h1 := List.pairwise_iff_getElem.mp h 0 t (by simp; omega) (by simp; omega) (by omega)
      simp only [List.getElem_map, List.getElem_range] at h1
      refine h1 ?_
      have e : l * (t : Int) = b * (l / (Int.gcd l b : Int)) := by
        have h2 := spread_mul (l := l) (b := b)
        have h3 : (Int.gcd l b : Int) * (l / (Int.gcd l b : Int)) = l := Int.mul_ediv_cancel' (Int.gcd_dvd_left ..)
        have ht' : spread b l = (t : Int) := ht
        rw [ht'] at h2
        generalize (Int.gcd l b : Int) = g at *
        generalize l / g = q at *
        subst h2
        rw [← h3]
        grind
      rw [e, Int.mul_emod_right]
      simp
    · exact z
  · intro h
    refine List.pairwise_iff_getElem.mpr fun i j hi hj hij => ?_
    simp only [List.length_map, List.length_range] at hi hj
    simp only [List.getElem_map, List.getElem_range]
    intro e
    have d : b ∣ l * ((j : Int) - i) := by
      refine Int.dvd_of_emod_eq_zero ?_
      rw [Int.mul_sub, Int.sub_emod, e, Int.sub_self, Int.zero_emod]
    have d2 : b ∣ (Int.gcd (l * ((j : Int) - i)) (b * ((j : Int) - i)) : Int) := Int.dvd_coe_gcd d (Int.dvd_mul_right _ _)
    rw [Int.gcd_mul_right] at d2
    have e3 : ((Int.gcd l b * ((j : Int) - i).natAbs : Nat) : Int) = (Int.gcd l b : Int) * ((j : Int) - i) := by
      rw [Int.natCast_mul]
      congr 1
      omega
    rw [e3, ← spread_mul (l := l) (b := b)] at d2
    have g := gcd_pos (l := l) hb
    rw [spread_mul] at d2
    have d3 : (Int.gcd l b : Int) * spread b l ∣ (Int.gcd l b : Int) * ((j : Int) - i) := by rw [spread_mul]; exact d2
    have d4 := Int.dvd_of_mul_dvd_mul_left (by omega) d3
    have := Int.le_of_dvd (by omega) d4
    omega
/-- how many of n numbers from a on -/
def cntP (p : Int → Bool) (a : Int) (n : Nat) : Nat := (List.range n).countP fun i : Nat => p (a + (i : Int))
theorem cnt_add (p : Int → Bool) (a : Int) (m n : Nat) : cntP p a (m + n) = cntP p a m + cntP p (a + m) n := by
  unfold cntP
  rw [List.range_add, List.countP_append, List.countP_map]
  congr 1
  refine List.countP_congr fun i _ => ?_
  simp only [Function.comp]
  rw [show a + ((m + i : Nat) : Int) = a + m + i by omega]
theorem cnt_congr {p : Int → Bool} {a b : Int} (n : Nat) (h : ∀ i : Nat, p (a + i) = p (b + i)) : cntP p a n = cntP p b n := by
  unfold cntP
  exact List.countP_congr fun i _ => by rw [h i]
theorem cnt_period {p : Int → Bool} {b : Nat} (hp : ∀ l k : Int, p (l + (b : Int) * k) = p l) (a : Int) : ∀ k : Nat, cntP p a (k * b) = k * cntP p a b
  | 0 => by simp [cntP]
  | k + 1 => by
    rw [Nat.add_mul, Nat.one_mul, cnt_add, cnt_period hp a k, Nat.add_mul, Nat.one_mul]
    congr 1
    refine cnt_congr b fun i => ?_
    rw [show a + ((k * b : Nat) : Int) + (i : Int) = a + i + (b : Int) * (k : Int) by push_cast; rw [Int.mul_comm]; omega, hp]
/-- somewhere in a row of b numbers all banks differ -/
theorem some_free {b a : Int} (hb : 0 < b) : ∃ i : Nat, (i : Int) < b ∧ spread b (a + i) = b := by
  have h0 := Int.emod_nonneg (1 - a) (show b ≠ 0 by omega)
  have h1 := Int.emod_lt_of_pos (1 - a) hb
  obtain ⟨i, hi⟩ := Int.eq_ofNat_of_zero_le h0
  refine ⟨i, by omega, ?_⟩
  have e : a + (i : Int) = 1 + b * (-((1 - a) / b)) := by
    have := Int.emod_def (1 - a) b
    rw [hi] at this
    rw [Int.mul_neg]
    have h2 : Int.ofNat i = (i : Int) := rfl
    omega
  unfold spread
  rw [e, gcd_period]
  simp
end PN

/-! PQ: pools, and what banks.py answers of lengths. -/
namespace PM
open PySem PySem.Spec PyProof.Rows L2 PL PN
local macro_rules | `(tactic| walk_at "ev") => `(tactic| try simp only [mOf, endF, start0, gSeq, gNop, gAsg, gRet, gRetO, gAsgO, gDrop, gIf, gOpt, gPar, gPar3, gAug, aName, asNil, asCons, aTup, aLst, setV, setO, eVar, eC, eBin, eUn, eTup, aNil, aCons, oLst, frz, eCall, oCall, avN, avK, permL, lNil, lPv, lSl, tOf, tTru, tNt, tAn, tOrr, eIf, eAn, eOr, eNt, eChain, eCallB, eIxM, gSetIx, getM, pTru, pAdd, pSub, pMul, pFdiv, pMod, pPow, pNeg, pLt, pLe, pGt, pGe, pIs, pIsNot, pAddI, pIx, pLen, pAbs, pMax2, pMin2, Res.bind_ok, Res.bind_ex, Res.bind_stuck, Res.fl_ok, Res.fl_ex, Res.fl_stuck, Res.opt_some, Res.opt_none, lowerA, keyOf, getK, getAll, setAll, setK, distinct, List.map_cons, List.map_nil, List.length_cons, List.length_nil, List.replicate, List.cons_append, List.nil_append, List.append_nil, List.getElem?_cons_zero, List.getElem?_cons_succ, List.getElem?_nil, List.set_cons_zero, List.set_cons_succ, List.filterMap_cons, List.filterMap_nil, Option.bind_some, Option.map_some, Option.elim_some, if_true, if_false, Nat.reduceAdd, Nat.reduceSub, Nat.reduceEqDiff, Nat.reduceLeDiff, ↓reduceIte, Bool.false_eq_true, at0, at1, at2, at3, pEq, pNe, eqB_int, Option.some.injEq, decide_true, decide_false, not_true_eq_false, not_false_eq_true, Bool.and_true, ne_eq, reduceCtorEq, Bool.true_eq_false, Bool.not_true, Bool.not_false, frz, noEx, wipeS, wipeR, backS, backR, keepV, oComp, gFor, iAny, iRange1, iRange2, iRange3, iRangeW1, iRangeW2, eCallQ, oRg2, oRg1, oRg, tYesD, pIn, pNotIn, eSl, pNo, pSo, forL_nil, gApp, gParO, List.not_mem_nil, List.not_mem_nil])
local macro_rules | `(tactic| walk_at "evs") => `(tactic| simp only [*, mOf, endF, start0, gSeq, gNop, gAsg, gRet, gRetO, gAsgO, gDrop, gIf, gOpt, gPar, gPar3, gAug, aName, asNil, asCons, aTup, aLst, setV, setO, eVar, eC, eBin, eUn, eTup, aNil, aCons, oLst, frz, eCall, oCall, avN, avK, permL, lNil, lPv, lSl, tOf, tTru, tNt, tAn, tOrr, eIf, eAn, eOr, eNt, eChain, eCallB, eIxM, gSetIx, getM, pTru, pAdd, pSub, pMul, pFdiv, pMod, pPow, pNeg, pLt, pLe, pGt, pGe, pIs, pIsNot, pAddI, pIx, pLen, pAbs, pMax2, pMin2, Res.bind_ok, Res.bind_ex, Res.bind_stuck, Res.fl_ok, Res.fl_ex, Res.fl_stuck, Res.opt_some, Res.opt_none, lowerA, keyOf, getK, getAll, setAll, setK, distinct, List.map_cons, List.map_nil, List.length_cons, List.length_nil, List.replicate, List.cons_append, List.nil_append, List.append_nil, List.getElem?_cons_zero, List.getElem?_cons_succ, List.getElem?_nil, List.set_cons_zero, List.set_cons_succ, List.filterMap_cons, List.filterMap_nil, Option.bind_some, Option.map_some, Option.elim_some, if_true, if_false, Nat.reduceAdd, Nat.reduceSub, Nat.reduceEqDiff, Nat.reduceLeDiff, ↓reduceIte, Bool.false_eq_true, at0, at1, at2, at3, pEq, pNe, eqB_int, Option.some.injEq, decide_true, decide_false, not_true_eq_false, not_false_eq_true, Bool.and_true, ne_eq, reduceCtorEq, Bool.true_eq_false, Bool.not_true, Bool.not_false, frz, noEx, wipeS, wipeR, backS, backR, keepV, oComp, gFor, iAny, iRange1, iRange2, iRange3, iRangeW1, iRangeW2, eCallQ, oRg2, oRg1, oRg, tYesD, pIn, pNotIn, eSl, pNo, pSo, forL_nil, gApp, gParO, List.not_mem_nil, List.not_mem_nil, eq_self, not_true_eq_false, not_false_eq_true, ix30, ix31, ix32, Bool.and_self, and_self, and_true, true_and])
noncomputable def l_check_lengths_1b : PV → Stt → Option Stt := (aName 1)
noncomputable def l_check_lengths_1c_s1 : Stt → Fl := (gIf (tOf (eBin pLt (eVar 1) (eC (.int 1)))) (gSeq (fun _ => Fl.stuck) gNop) gNop)
noncomputable def l_check_lengths_1c : Stt → Fl := (gSeq l_check_lengths_1c_s1 gNop)
noncomputable def q_check_lengths_1 : Stt → Fl := (gFor (iAny (eVar 0)) l_check_lengths_1b l_check_lengths_1c)
theorem g_check_lengths_eq : g_check_lengths = (gSeq q_check_lengths_1 gNop) := rfl
noncomputable def l_count_lengths_1c : PV → Stt → Option Stt := (aName 7)
noncomputable def l_count_lengths_1d : Stt → Res Bool := tYesD
noncomputable def l_count_lengths_1e : Stt → Res PV := (eCall PM.m_is_free (avN 3 (lPv (eVar 0) (lPv (eVar 1) (lPv (eBin pAdd (eVar 2) (eVar 7)) lNil)))))
noncomputable def q_count_lengths_1 : Stt → Fl := (gDrop (eCall PM.m_check_wave (avN 1 (lPv (eVar 0) lNil))))
noncomputable def q_count_lengths_2 : Stt → Fl := (gDrop (eCall PM.m_check_banks (avN 1 (lPv (eVar 1) lNil))))
noncomputable def q_count_lengths_3 : Stt → Fl := (gDrop (eCallQ PM.m_check_lengths (aCons (eVar 2) (aCons (eVar 3) aNil))))
noncomputable def q_count_lengths_4 : Stt → Fl := (gIf (tOf (eBin pLt (eVar 3) (eVar 2))) (gSeq (fun _ => Fl.stuck) gNop) gNop)
noncomputable def q_count_lengths_5 : Stt → Fl := (gAsg (eCallB pDivmod (aCons (eBin pAdd (eBin pSub (eVar 3) (eVar 2)) (eC (.int 1))) (aCons (eVar 1) aNil))) (aTup 2 (asCons (aName 4) (asCons (aName 5) asNil))))
noncomputable def q_count_lengths_6 : Stt → Fl := (gAsg (frz (oComp [7] (iRangeW1 (aCons (eVar 1) aNil)) l_count_lengths_1c l_count_lengths_1d l_count_lengths_1e)) (aName 6))
noncomputable def q_count_lengths_7 : Stt → Fl := (gRet (eBin pAdd (eBin pMul (eVar 4) (eCallB pSum (aCons (eVar 6) aNil))) (eCallB pSum (aCons (eSl (eVar 6) pNo (pSo (eVar 5))) aNil))))
theorem g_count_lengths_eq : g_count_lengths = (gSeq q_count_lengths_1 (gSeq q_count_lengths_2 (gSeq q_count_lengths_3 (gSeq q_count_lengths_4 (gSeq q_count_lengths_5 (gSeq q_count_lengths_6 (gSeq q_count_lengths_7 gNop))))))) := rfl
noncomputable def l_least_length_1b : PV → Stt → Option Stt := (aName 3)
noncomputable def l_least_length_1c_s1 : Stt → Fl := (gIf (tTru (eCall PM.m_is_free (avN 3 (lPv (eVar 0) (lPv (eVar 1) (lPv (eVar 3) lNil)))))) (gSeq (gRet (eVar 3)) gNop) gNop)
noncomputable def l_least_length_1c : Stt → Fl := (gSeq l_least_length_1c_s1 gNop)
noncomputable def q_least_length_1 : Stt → Fl := (gDrop (eCall PM.m_check_wave (avN 1 (lPv (eVar 0) lNil))))
noncomputable def q_least_length_2 : Stt → Fl := (gDrop (eCall PM.m_check_banks (avN 1 (lPv (eVar 1) lNil))))
noncomputable def q_least_length_3 : Stt → Fl := (gDrop (eCallQ PM.m_check_lengths (aCons (eVar 2) aNil)))
noncomputable def q_least_length_4 : Stt → Fl := (gFor (iRangeW2 (aCons (eVar 2) (aCons (eBin pAdd (eVar 2) (eVar 1)) aNil))) l_least_length_1b l_least_length_1c)
noncomputable def q_least_length_5 : Stt → Fl := (gRet (eC .non))
theorem g_least_length_eq : g_least_length = (gSeq q_least_length_1 (gSeq q_least_length_2 (gSeq q_least_length_3 (gSeq q_least_length_4 (gSeq q_least_length_5 gNop))))) := rfl
theorem seq_nx {f g : Stt → Fl} {s s1 : Stt} (h : f s = .nx s1) : gSeq f g s = g s1 := by simp only [gSeq, h]
theorem seq_rt {f g : Stt → Fl} {s s1 : Stt} {v : PV} (h : f s = .rt v s1) : gSeq f g s = .rt v s1 := by simp only [gSeq, h]
/-! ### pools -/
def Pool (n : Nat) (m : MO) : Prop := ∃ a b c : Int, m = .lst [.int a, .int b, .int c] ∧ 0 ≤ a ∧ 0 ≤ b ∧ b < 2 ^ 100 ∧ 0 ≤ c ∧ c ≤ n
theorem Pool.mono {n k : Nat} {m : MO} (h : Pool n m) (hk : n ≤ k) : Pool k m := by
  obtain ⟨a, b, c, h1, h2, h3, h4, h5, h6⟩ := h
  exact ⟨a, b, c, h1, h2, h3, h4, h5, by omega⟩
def pmix1 (b c : Int) : Int := ((b + 15488257 * c) ^ (Int.toNat 3)).fmod 162259276829213363391578010288127
def pmix2 (b c : Int) : Int := ((pmix1 b c + 32453651 * c) ^ (Int.toNat 5)).fmod 170141183460469231731687303715884105727
theorem okPow5 {x : Int} {n : Nat} (h : x.natAbs < 2 ^ n) (hn : n ≤ 150000) (h0 : 0 < n) : okPow x 5 = true := by
  have : x.natAbs.log2 < n := by
    by_cases z : x.natAbs = 0
    · rw [z]; simpa using h0
    · exact (Nat.log2_lt z).mpr h
  exact decide_eq_true ⟨by decide, by show (x.natAbs.log2 + 1) * 5 ≤ 1000000; omega⟩
theorem e_pdraw0 (a b c many : Int) (ha : decide (a > 0) = true) (hz : (many = 0) = False) (hd : okDiv many = true) :
    m__law_draw_2 [.bor 0, .val (.int many)] [.lst [.int a, .int b, .int c]] = .ok (.int (a.fmod many)) [.lst [.int (a.fdiv many), .int b, .int c]] := by
  unfold m__law_draw_2 g__law_draw_2
  iterate 6 (walk_at "ev"; try walk_at "evs")
theorem e_pdraw1 (a b c many : Int) (ha : decide (a > 0) = false) (hz : (many = 0) = False) (k1 : okMul 15488257 (c + 1) = true) (k2 : okPow (b + 15488257 * (c + 1)) 3 = true) (z1 : ((162259276829213363391578010288127 : Int) = 0) = False) (k3 : okMul 32453651 (c + 1) = true)
    (k4 : okPow (pmix1 b (c + 1) + 32453651 * (c + 1)) 5 = true) (z2 : ((170141183460469231731687303715884105727 : Int) = 0) = False) (k5 : okDiv 1048576 = true) (e1 : ((b + 15488257 * (c + 1)) ^ (Int.toNat 3)).fmod 162259276829213363391578010288127 = pmix1 b (c + 1)) (e2 : ((pmix1 b (c + 1) + 32453651 * (c + 1)) ^ (Int.toNat 5)).fmod 170141183460469231731687303715884105727 = pmix2 b (c + 1)) :
    m__law_draw_2 [.bor 0, .val (.int many)] [.lst [.int a, .int b, .int c]] = .ok (.int (((pmix2 b (c + 1)).fdiv 1048576).fmod many)) [.lst [.int a, .int b, .int (c + 1)]] := by
  unfold m__law_draw_2 g__law_draw_2
  iterate 10 (walk_at "ev"; try walk_at "evs")
theorem e_pdraw {n : Nat} {m : MO} (h : Pool n m) (hn : n < 2 ^ 60) (many : Int) (h0 : 0 < many) (hb : many.natAbs < 2 ^ 8000) :
    ∃ d m', m__law_draw_2 [.bor 0, .val (.int many)] [m] = .ok (.int d) [m'] ∧ 0 ≤ d ∧ d < many ∧ Pool (n + 1) m' := by
  obtain ⟨a, b, c, rfl, a0, b0, bb, c0, cb⟩ := h
  have hd : okDiv many = true := okDiv_of (by omega) hb (by decide) (by decide)
  by_cases ha : 0 < a
  · refine ⟨_, _, e_pdraw0 a b c many (decide_eq_true ha) (by simp; omega) hd, ?_⟩
    rw [Int.fmod_eq_emod_of_nonneg _ (by omega), Int.fdiv_eq_ediv_of_nonneg _ (by omega)]
    exact ⟨Int.emod_nonneg _ (by omega), Int.emod_lt_of_pos _ h0, a / many, b, c, rfl, Int.ediv_nonneg a0 (by omega), b0, bb, c0, by omega⟩
  · have e1 : 0 ≤ pmix1 b (c + 1) ∧ pmix1 b (c + 1) < 162259276829213363391578010288127 := ⟨Int.fmod_nonneg_of_pos _ (by decide), Int.fmod_lt_of_pos _ (by decide)⟩
    refine ⟨_, _, e_pdraw1 a b c many (decide_eq_false ha) (by simp; omega) ?_ ?_ (by simp) ?_ ?_ (by simp) (by decide +kernel) rfl rfl, ?_⟩
    · exact okMul_of (i := 15488257) (j := c + 1) (a := 30) (b := 70) (by decide) (by omega) (by decide) (by decide) (by decide)
    · exact okPow3 (n := 200) (by omega) (by decide) (by decide)
    · exact okMul_of (i := 32453651) (j := c + 1) (a := 30) (b := 70) (by decide) (by omega) (by decide) (by decide) (by decide)
    · exact okPow5 (n := 200) (by omega) (by decide) (by decide)
    · rw [Int.fmod_eq_emod_of_nonneg _ (by omega)]
      exact ⟨Int.emod_nonneg _ (by omega), Int.emod_lt_of_pos _ h0, a, b, c + 1, rfl, a0, b0, bb, by omega, by omega⟩
theorem e_pool0 (l : List PV) (t w : Int) (at_ : Int) (k1 : okPow 10 18 = true) (z1 : ((2305843009213693951 : Int) = 0) = False) (k2 : okMul 3367900313 (at_ + 1) = true) (c : Bool) (hc : decide (at_ < (l.length : Int)) = c) (hx : c = true → atI l at_ = some (.int t)) (hw : w = if c = true then t else 0) :
    m__law_pool [.val (.scr l), .val (.int at_)] [] = .own (.lst [.int (if (if w < 0 then -w else w) - 10 ^ Int.toNat 18 > 0 then (if w < 0 then -w else w) - 10 ^ Int.toNat 18 else 0), .int (w.fmod 2305843009213693951 + 3367900313 * (at_ + 1)), .int 0]) [] := by
  unfold m__law_pool g__law_pool
  cases c
  · simp only [Bool.false_eq_true, if_false] at hw
    subst hw
    clear hx
    iterate 6 (walk_at "ev"; try walk_at "evs")
  · simp only [if_true] at hw
    subst hw
    have hx := hx rfl
    iterate 6 (walk_at "ev"; try walk_at "evs")
theorem e_pool (ns : List Int) (i : Nat) (hi : i ≤ 1000000) : ∃ m, m__law_pool [.val (scrOf ns), .val (.int i)] [] = .own m [] ∧ Pool 0 m := by
  have hm := Int.fmod_nonneg_of_pos
  refine ⟨_, e_pool0 (ns.map PV.int) (ns.getD i 0) _ i (by decide +kernel) (by simp) ?_ _ rfl (fun hc => ?_) rfl, _, _, _, rfl, ?_, ?_, ?_, by omega, by omega⟩
  · exact okMul_of (i := 3367900313) (j := (i : Int) + 1) (a := 40) (b := 70) (by decide) (by omega) (by decide) (by decide) (by decide)
  · have hl : i < ns.length := by simpa using of_decide_eq_true hc
    refine atI_at ?_
    rw [List.getElem?_map, List.getD_eq_getElem?_getD, List.getElem?_eq_getElem hl]
    rfl
  · split <;> omega
  · have := Int.fmod_nonneg_of_pos (if decide ((i : Int) < ((ns.map PV.int).length : Int)) = true then ns.getD i 0 else 0) (show (0 : Int) < 2305843009213693951 by decide)
    omega
  · have := Int.fmod_lt_of_pos (if decide ((i : Int) < ((ns.map PV.int).length : Int)) = true then ns.getD i 0 else 0) (show (0 : Int) < 2305843009213693951 by decide)
    omega
/-! ### checks -/
theorem e_check_wave (w : Int) (h : 1 ≤ w ∧ w ≤ 32) : m_check_wave [.val (.int w)] [] = .ok .non [] := by
  have h1 : decide (1 ≤ w) = true := decide_eq_true h.1
  have h2 : decide (w ≤ 32) = true := decide_eq_true h.2
  unfold m_check_wave g_check_wave
  iterate 3 (walk_at "ev"; try walk_at "evs")
theorem e_check_banks (w : Int) (h : 1 ≤ w ∧ w ≤ 4096) : m_check_banks [.val (.int w)] [] = .ok .non [] := by
  have h1 : decide (1 ≤ w) = true := decide_eq_true h.1
  have h2 : decide (w ≤ 4096) = true := decide_eq_true h.2
  unfold m_check_banks g_check_banks
  iterate 3 (walk_at "ev"; try walk_at "evs")
theorem e_check_lengths (ns : List Int) (h : ∀ n ∈ ns, 1 ≤ n) : m_check_lengths [.val (.tup (ns.map PV.int))] [] = .ok .non [] := by
  obtain ⟨s2, e2, w, rfl⟩ := forL_all (a := l_check_lengths_1b) (b := l_check_lengths_1c) (fun s => ∃ w : Option SV, s = ⟨[some (.val (.tup (ns.map PV.int))), w], []⟩) (l := ns.map PV.int) (s := ⟨[some (.val (.tup (ns.map PV.int))), none], []⟩) ⟨_, rfl⟩ (by
    rintro p s hp ⟨w, rfl⟩
    obtain ⟨n, hn, rfl⟩ := List.mem_map.mp hp
    have h1 : decide (n < 1) = false := decide_eq_false (by have := h n hn; omega)
    refine ⟨_, rfl, _, .inl ?_, some (.val (.int n)), rfl⟩
    clear hp h hn
    unfold l_check_lengths_1c l_check_lengths_1c_s1
    iterate 3 (walk_at "ev"; try walk_at "evs"))
  unfold m_check_lengths
  rw [g_check_lengths_eq]
  unfold q_check_lengths_1
  clear h
  iterate 3 (walk_at "ev"; try walk_at "evs")
/-! ### spreads -/
theorem e_bezout0 (b : Int) (hb : 0 < b) (hb2 : b.natAbs < 2 ^ 4000) : m_bezout [.val (.int 0), .val (.int b)] [] = .ok (.tup [.int b, .int 0]) [] := by
  have hd : okDiv b = true := okDiv_of (by omega) (Nat.lt_of_lt_of_le hb2 (Nat.pow_le_pow_right (by decide) (by decide : 4000 ≤ 8000))) (by decide) (by decide)
  have m1 : okMul 0 b = true := okMul_of (a := 4000) (b := 4000) (by decide +kernel) hb2 (by decide) (by decide) (by decide)
  have m2 : okMul 0 0 = true := okMul_of (a := 4000) (b := 4000) (by decide +kernel) (by decide +kernel) (by decide) (by decide) (by decide)
  have k1 : whileN l_bezout_1a l_bezout_1b 2 ⟨[some (.val (.int 0)), some (.val (.int b)), some (.val (.int 0)), some (.val (.int b)), some (.val (.int 1)), some (.val (.int 0)), none], []⟩ =
      .nx ⟨[some (.val (.int 0)), some (.val (.int b)), some (.val (.int b)), some (.val (.int 0)), some (.val (.int 0)), some (.val (.int 1)), some (.val (.int 0))], []⟩ := by
    rw [whileN_succ]
    unfold l_bezout_1a l_bezout_1b
    walk_at "ev"
    simp only [beq_eq_false_iff_ne.mpr (show b ≠ 0 by omega), if_pos hd, Int.zero_fdiv]
    walk_at "ev"
    simp only [if_pos m1]
    walk_at "ev"
    simp only [if_pos m2]
    walk_at "ev"
    simp only [Int.zero_mul, Int.sub_zero]
    rw [whileN_succ]
    walk_at "ev"
    simp [whileN]
  unfold m_bezout
  rw [g_bezout_eq]
  walk_at "ev"
  rw [gWhile_eq k1 (by simp)]
  walk_at "ev"
  simp only [decide_eq_true (show (b : Int) ≥ 0 by omega)]
  walk_at "ev"
theorem e_gcd (a b : Int) (ha : 0 ≤ a) (hb : 0 < b) (ha2 : a.natAbs < 2 ^ 4000) (hb2 : b.natAbs < 2 ^ 4000) : ∃ x, m_bezout [.val (.int a), .val (.int b)] [] = .ok (.tup [.int (Int.gcd a b : Int), .int x]) [] := by
  by_cases h : a = 0
  · subst h
    refine ⟨0, ?_⟩
    rw [e_bezout0 b hb hb2]
    have : (Int.gcd 0 b : Int) = b := by simp; omega
    rw [this]
  · obtain ⟨g, x, q, q2, y, h1, h2, h3, h4, h5, h6, h7⟩ := e_bezout a b (by omega) hb ha2 hb2
    refine ⟨x, ?_⟩
    rw [h1, gcd_of h2 h5 h6 h7]
theorem e_different_banks (l b : Int) (hb : 0 < b) (hb2 : b.natAbs < 2 ^ 4000) : m_different_banks [.val (.int l), .val (.int b)] [] = .ok (.int (spread b l)) [] := by
  have h0 := Int.emod_nonneg l (show b ≠ 0 by omega)
  have h1 := Int.emod_lt_of_pos l hb
  obtain ⟨x, hx⟩ := e_gcd (l % b) b h0 hb (by omega) hb2
  rw [gcd_mod] at hx
  have hz : (b = 0) = False := by simp; omega
  have g := gcd_pos (l := l) hb
  have gl : (Int.gcd l b : Int) ≤ b := Int.le_of_dvd hb (Int.gcd_dvd_right ..)
  have hd : okDiv (Int.gcd l b : Int) = true := okDiv_of (b := 4000) (by omega) (Nat.lt_of_le_of_lt (m := b.natAbs) (by omega) hb2) (by decide) (by decide)
  have em : l.fmod b = l % b := Int.fmod_eq_emod_of_nonneg _ (by omega)
  have ed : b.fdiv (Int.gcd l b : Int) = spread b l := Int.fdiv_eq_ediv_of_nonneg _ (by omega)
  clear h0 h1 gl
  unfold m_different_banks g_different_banks
  iterate 4 (walk_at "ev"; try walk_at "evs")
theorem e_degree_for (w l b : Int) (hw : 1 ≤ w) (hl : 1 ≤ l) (hb : 0 < b) (hb2 : b.natAbs < 2 ^ 4000) : m_degree_for [.val (.int w), .val (.int l), .val (.int b)] [] = .ok (.int ((w + spread b l - 1) / spread b l)) [] := by
  have h1 : (w == 0) = false := by simp; omega
  have h2 : (l == 0) = false := by simp; omega
  have h3 := e_different_banks l b hb hb2
  have s0 := spread_pos (l := l) hb
  have s1 := spread_le (l := l) hb
  have hd : okDiv (spread b l) = true := okDiv_of (b := 4000) (by omega) (Nat.lt_of_le_of_lt (m := b.natAbs) (by omega) hb2) (by decide) (by decide)
  have ed : (w + spread b l - 1).fdiv (spread b l) = (w + spread b l - 1) / spread b l := Int.fdiv_eq_ediv_of_nonneg _ (by omega)
  clear s0 s1
  unfold m_degree_for g_degree_for
  iterate 4 (walk_at "ev"; try walk_at "evs")
theorem e_is_free (w l b : Int) (hw : 1 ≤ w) (hl : 1 ≤ l) (hb : 0 < b) (hb2 : b.natAbs < 2 ^ 4000) : m_is_free [.val (.int w), .val (.int b), .val (.int l)] [] = .ok (.bl (fr w b l)) [] := by
  have h3 := e_degree_for w l b hw hl hb hb2
  have h4 : ((w + spread b l - 1) / spread b l == 1) = fr w b l := by
    have := degree_one (m := w) (t := spread b l) (by omega) (spread_pos hb)
    unfold fr
    by_cases z : w ≤ spread b l
    · simp [z, this.mpr z]
    · simp [z, show (w + spread b l - 1) / spread b l ≠ 1 from fun q => z (this.mp q)]
  unfold m_is_free g_is_free
  clear hw hl hb hb2
  iterate 4 (walk_at "ev"; try walk_at "evs")
end PM

/-! PQ2: least_length, count_lengths. -/
namespace PM
open PySem PySem.Spec PyProof.Rows L2 PL PN
local macro_rules | `(tactic| walk_at "ev") => `(tactic| try simp only [mOf, endF, start0, gSeq, gNop, gAsg, gRet, gRetO, gAsgO, gDrop, gIf, gOpt, gPar, gPar3, gAug, aName, asNil, asCons, aTup, aLst, setV, setO, eVar, eC, eBin, eUn, eTup, aNil, aCons, oLst, frz, eCall, oCall, avN, avK, permL, lNil, lPv, lSl, tOf, tTru, tNt, tAn, tOrr, eIf, eAn, eOr, eNt, eChain, eCallB, eIxM, gSetIx, getM, pTru, pAdd, pSub, pMul, pFdiv, pMod, pPow, pNeg, pLt, pLe, pGt, pGe, pIs, pIsNot, pAddI, pIx, pLen, pAbs, pMax2, pMin2, Res.bind_ok, Res.bind_ex, Res.bind_stuck, Res.fl_ok, Res.fl_ex, Res.fl_stuck, Res.opt_some, Res.opt_none, lowerA, keyOf, getK, getAll, setAll, setK, distinct, List.map_cons, List.map_nil, List.length_cons, List.length_nil, List.replicate, List.cons_append, List.nil_append, List.append_nil, List.getElem?_cons_zero, List.getElem?_cons_succ, List.getElem?_nil, List.set_cons_zero, List.set_cons_succ, List.filterMap_cons, List.filterMap_nil, Option.bind_some, Option.map_some, Option.elim_some, if_true, if_false, Nat.reduceAdd, Nat.reduceSub, Nat.reduceEqDiff, Nat.reduceLeDiff, ↓reduceIte, Bool.false_eq_true, at0, at1, at2, at3, pEq, pNe, eqB_int, Option.some.injEq, decide_true, decide_false, not_true_eq_false, not_false_eq_true, Bool.and_true, ne_eq, reduceCtorEq, Bool.true_eq_false, Bool.not_true, Bool.not_false, frz, noEx, wipeS, wipeR, backS, backR, keepV, oComp, gFor, iAny, iRange1, iRange2, iRange3, iRangeW1, iRangeW2, eCallQ, oRg2, oRg1, oRg, tYesD, pIn, pNotIn, eSl, pNo, pSo, forL_nil, gApp, gParO, List.not_mem_nil, List.not_mem_nil])
local macro_rules | `(tactic| walk_at "evs") => `(tactic| simp only [*, mOf, endF, start0, gSeq, gNop, gAsg, gRet, gRetO, gAsgO, gDrop, gIf, gOpt, gPar, gPar3, gAug, aName, asNil, asCons, aTup, aLst, setV, setO, eVar, eC, eBin, eUn, eTup, aNil, aCons, oLst, frz, eCall, oCall, avN, avK, permL, lNil, lPv, lSl, tOf, tTru, tNt, tAn, tOrr, eIf, eAn, eOr, eNt, eChain, eCallB, eIxM, gSetIx, getM, pTru, pAdd, pSub, pMul, pFdiv, pMod, pPow, pNeg, pLt, pLe, pGt, pGe, pIs, pIsNot, pAddI, pIx, pLen, pAbs, pMax2, pMin2, Res.bind_ok, Res.bind_ex, Res.bind_stuck, Res.fl_ok, Res.fl_ex, Res.fl_stuck, Res.opt_some, Res.opt_none, lowerA, keyOf, getK, getAll, setAll, setK, distinct, List.map_cons, List.map_nil, List.length_cons, List.length_nil, List.replicate, List.cons_append, List.nil_append, List.append_nil, List.getElem?_cons_zero, List.getElem?_cons_succ, List.getElem?_nil, List.set_cons_zero, List.set_cons_succ, List.filterMap_cons, List.filterMap_nil, Option.bind_some, Option.map_some, Option.elim_some, if_true, if_false, Nat.reduceAdd, Nat.reduceSub, Nat.reduceEqDiff, Nat.reduceLeDiff, ↓reduceIte, Bool.false_eq_true, at0, at1, at2, at3, pEq, pNe, eqB_int, Option.some.injEq, decide_true, decide_false, not_true_eq_false, not_false_eq_true, Bool.and_true, ne_eq, reduceCtorEq, Bool.true_eq_false, Bool.not_true, Bool.not_false, frz, noEx, wipeS, wipeR, backS, backR, keepV, oComp, gFor, iAny, iRange1, iRange2, iRange3, iRangeW1, iRangeW2, eCallQ, oRg2, oRg1, oRg, tYesD, pIn, pNotIn, eSl, pNo, pSo, forL_nil, gApp, gParO, List.not_mem_nil, List.not_mem_nil, eq_self, not_true_eq_false, not_false_eq_true, ix30, ix31, ix32, Bool.and_self, and_self, and_true, true_and])
/-- a loop that returns the first item with P -/
theorem forL_first {a : PV → Stt → Option Stt} {b : Stt → Fl} (I : Stt → Prop) (P : PV → Bool) : ∀ (l : List PV) (s : Stt), I s →
    (∀ p ∈ l, ∀ s, I s → ∃ s1, a p s = some s1 ∧ ∃ s2, I s2 ∧ b s1 = if P p = true then .rt p s2 else .nx s2) → ∃ s2, I s2 ∧ forL a b l s = match l.find? P with
      | some p => .rt p s2
      | none => .nx s2
  | [], s, h0, _ => ⟨s, h0, rfl⟩
  | p :: r, s, h0, h => by
    obtain ⟨s1, e1, s2, h2, e2⟩ := h p List.mem_cons_self s h0
    rw [List.find?_cons]
    by_cases hp : P p = true
    · rw [if_pos hp] at e2
      refine ⟨s2, h2, ?_⟩
      rw [forL_cons _ _ _ _ _ _ e1, e2, hp]
    · rw [if_neg hp] at e2
      obtain ⟨s3, h3, e3⟩ := forL_first I P r s2 h2 fun q hq => h q (List.mem_cons_of_mem _ hq)
      refine ⟨s3, h3, ?_⟩
      rw [forL_cons _ _ _ _ _ _ e1, e2]
      simp only [Bool.not_eq_true] at hp
      rw [hp]
      exact e3
/-- the first of n numbers from a on with p -/
def firstP (p : Int → Bool) (a : Int) (n : Nat) : Option Int := ((List.range n).find? fun i : Nat => p (a + (i : Int))).map fun i : Nat => a + (i : Int)
def optI : Option Int → PV
  | some x => .int x
  | none => .non
theorem rng_find (p : Int → Bool) (q : PV → Bool) (a : Int) (n : Nat) (h : ∀ i : Int, q (.int i) = p i) : (rng a n).find? q = (firstP p a n).map PV.int := by
  unfold rng firstP
  rw [List.find?_map, Option.map_map]
  have e : (q ∘ fun i : Nat => PV.int (a + (i : Int))) = fun i : Nat => p (a + (i : Int)) := funext fun i => h _
  rw [e]
  rfl
def pfr (w b : Int) : PV → Bool
  | .int l => fr w b l
  | _ => false
theorem e_least_length (w b l : Int) (hw : 1 ≤ w ∧ w ≤ 32) (hb : 1 ≤ b ∧ b ≤ 4096) (hl : 1 ≤ l) :
    m_least_length [.val (.int w), .val (.int b), .val (.int l)] [] = .ok (optI (firstP (fr w b) l b.toNat)) [] := by
  have c1 := e_check_wave w hw
  have c2 := e_check_banks b hb
  have c3 := e_check_lengths [l] (by simpa using hl)
  have b0 : 0 < b := by omega
  have bb : b.natAbs < 2 ^ 4000 := Nat.lt_of_le_of_lt (m := 4096) (by omega) (by decide +kernel)
  simp only [List.map_cons, List.map_nil] at c3
  have q1 : q_least_length_1 ⟨[some (.val (.int w)), some (.val (.int b)), some (.val (.int l)), none], []⟩ = .nx ⟨[some (.val (.int w)), some (.val (.int b)), some (.val (.int l)), none], []⟩ := by
    clear hw hb hl b0 bb
    unfold q_least_length_1
    iterate 3 (walk_at "ev"; try walk_at "evs")
  have q2 : q_least_length_2 ⟨[some (.val (.int w)), some (.val (.int b)), some (.val (.int l)), none], []⟩ = .nx ⟨[some (.val (.int w)), some (.val (.int b)), some (.val (.int l)), none], []⟩ := by
    clear hw hb hl b0 bb
    unfold q_least_length_2
    iterate 3 (walk_at "ev"; try walk_at "evs")
  have q3 : q_least_length_3 ⟨[some (.val (.int w)), some (.val (.int b)), some (.val (.int l)), none], []⟩ = .nx ⟨[some (.val (.int w)), some (.val (.int b)), some (.val (.int l)), none], []⟩ := by
    clear hw hb hl b0 bb
    unfold q_least_length_3
    iterate 3 (walk_at "ev"; try walk_at "evs")
  obtain ⟨s2, ⟨x, rfl⟩, e⟩ := forL_first (a := l_least_length_1b) (b := l_least_length_1c) (fun s => ∃ x, s = ⟨[some (.val (.int w)), some (.val (.int b)), some (.val (.int l)), x], []⟩) (pfr w b) (rng l b.toNat) ⟨[some (.val (.int w)), some (.val (.int b)), some (.val (.int l)), none], []⟩ ⟨_, rfl⟩ (by
    rintro p hp s ⟨x, rfl⟩
    unfold rng at hp
    obtain ⟨i, hi, rfl⟩ := List.mem_map.mp hp
    have c4 := e_is_free w (l + i) b hw.1 (by omega) b0 bb
    refine ⟨_, rfl, ⟨[some (.val (.int w)), some (.val (.int b)), some (.val (.int l)), some (.val (.int (l + i)))], []⟩, ⟨_, rfl⟩, ?_⟩
    show _ = if fr w b (l + i) = true then _ else _
    clear hp hi hw hb hl b0 bb c1 c2 c3 q1 q2 q3
    unfold l_least_length_1c l_least_length_1c_s1
    generalize fr w b (l + i) = f at *
    generalize l + (i : Int) = z at *
    cases f <;> iterate 3 (walk_at "ev"; try walk_at "evs"))
  rw [rng_find (fr w b) (pfr w b) l b.toNat fun i => rfl] at e
  have eb : (l + b - l).toNat = b.toNat := by omega
  have eb2 : rng l (l + b - l).toNat = rng l b.toNat := by rw [eb]
  unfold m_least_length
  rw [g_least_length_eq]
  simp only [mOf, start0, List.map_cons, List.map_nil, List.length_cons, List.length_nil, Nat.reduceAdd, Nat.reduceSub, List.replicate, List.cons_append, List.nil_append]
  rw [seq_nx q1, seq_nx q2, seq_nx q3]
  unfold q_least_length_4 q_least_length_5
  clear hw hb hl b0 bb c1 c2 c3 q1 q2 q3 eb
  cases hf : firstP (fr w b) l b.toNat with
  | some z =>
    rw [hf] at e
    simp only [Option.map_some] at e
    simp only [optI]
    iterate 3 (walk_at "ev"; try walk_at "evs")
  | none =>
    rw [hf] at e
    simp only [Option.map_none] at e
    simp only [optI]
    iterate 3 (walk_at "ev"; try walk_at "evs")
/-! ### count_lengths -/
theorem allInt_bls : ∀ {b : Bool} {bs : List Bool}, allInt ((b :: bs).map PV.bl) = none := fun {b bs} => rfl
theorem allBl_map : ∀ bs : List Bool, allBl (bs.map PV.bl) = some bs
  | [] => rfl
  | b :: r => by
    simp only [List.map_cons, allBl, allBl_map r, Option.map_some]
theorem pSum_bls (bs : List Bool) : pSum [.lst (bs.map PV.bl)] = some (.int (bs.count true : Nat)) := by
  cases bs with
  | nil => rfl
  | cons b r =>
    unfold pSum
    simp only [allInt_bls, allBl_map, Option.map_some]
theorem cut_take (l : List PV) (r : Nat) : pCut l none (some (r : Int)) = l.take r := by
  unfold pCut
  rw [HT.sIx_none, HT.sIx_nat, List.drop_zero, Nat.sub_zero]
  rcases Nat.le_total r l.length with h | h
  · rw [Nat.min_eq_left h]
  · rw [Nat.min_eq_right h, List.take_length, List.take_of_length_le h]
def flagsL (w b lo : Int) (n : Nat) : List Bool := (List.range n).map fun i : Nat => fr w b (lo + (i : Int))
theorem flags_count (w b lo : Int) (n r : Nat) (h : r ≤ n) : ((flagsL w b lo n).take r).count true = cntP (fr w b) lo r := by
  unfold flagsL cntP
  rw [← List.map_take, List.take_range, Nat.min_eq_left h, List.count_eq_countP, List.countP_map]
  refine List.countP_congr fun i _ => ?_
  simp [Function.comp]
theorem e_count_lengths (w b lo hi : Int) (hw : 1 ≤ w ∧ w ≤ 32) (hb : 1 ≤ b ∧ b ≤ 4096) (hl : 1 ≤ lo) (hh : lo ≤ hi) (hs : hi.natAbs < 2 ^ 4000) :
    m_count_lengths [.val (.int w), .val (.int b), .val (.int lo), .val (.int hi)] [] = .ok (.int (cntP (fr w b) lo (hi - lo + 1).toNat : Nat)) [] := by
  have c1 := e_check_wave w hw
  have c2 := e_check_banks b hb
  have c3 := e_check_lengths [lo, hi] (by intro n hn; simp at hn; omega)
  have b0 : 0 < b := by omega
  have bb : b.natAbs < 2 ^ 4000 := Nat.lt_of_le_of_lt (m := 4096) (by omega) (by decide +kernel)
  simp only [List.map_cons, List.map_nil] at c3
  generalize hk : (hi - lo + 1) / b = k
  generalize hr : (hi - lo + 1) % b = r
  have k0 : 0 ≤ k := by rw [← hk]; exact Int.ediv_nonneg (by omega) (by omega)
  have k1 : k ≤ hi := by
    have : (hi - lo + 1) / b ≤ hi - lo + 1 := Int.ediv_le_self _ (by omega)
    omega
  have r0 : 0 ≤ r := by rw [← hr]; exact Int.emod_nonneg _ (by omega)
  have r1 : r < b := by rw [← hr]; exact Int.emod_lt_of_pos _ (by omega)
  have dm : okDm (hi - lo + 1) b = true := by
    unfold okDm
    rw [PyProof.noPylong_small (by omega)]
    simpa using b0
  have q1 : q_count_lengths_1 ⟨[some (.val (.int w)), some (.val (.int b)), some (.val (.int lo)), some (.val (.int hi)), none, none, none, none], []⟩ = .nx ⟨[some (.val (.int w)), some (.val (.int b)), some (.val (.int lo)), some (.val (.int hi)), none, none, none, none], []⟩ := by
    clear hw hb hl b0 bb hh hs k0 k1 r0 r1 hk hr dm
    unfold q_count_lengths_1
    iterate 3 (walk_at "ev"; try walk_at "evs")
  have q2 : q_count_lengths_2 ⟨[some (.val (.int w)), some (.val (.int b)), some (.val (.int lo)), some (.val (.int hi)), none, none, none, none], []⟩ = .nx ⟨[some (.val (.int w)), some (.val (.int b)), some (.val (.int lo)), some (.val (.int hi)), none, none, none, none], []⟩ := by
    clear hw hb hl b0 bb hh hs k0 k1 r0 r1 hk hr dm
    unfold q_count_lengths_2
    iterate 3 (walk_at "ev"; try walk_at "evs")
  have q3 : q_count_lengths_3 ⟨[some (.val (.int w)), some (.val (.int b)), some (.val (.int lo)), some (.val (.int hi)), none, none, none, none], []⟩ = .nx ⟨[some (.val (.int w)), some (.val (.int b)), some (.val (.int lo)), some (.val (.int hi)), none, none, none, none], []⟩ := by
    clear hw hb hl b0 bb hh hs k0 k1 r0 r1 hk hr dm
    unfold q_count_lengths_3
    iterate 3 (walk_at "ev"; try walk_at "evs")
  have q4 : q_count_lengths_4 ⟨[some (.val (.int w)), some (.val (.int b)), some (.val (.int lo)), some (.val (.int hi)), none, none, none, none], []⟩ = .nx ⟨[some (.val (.int w)), some (.val (.int b)), some (.val (.int lo)), some (.val (.int hi)), none, none, none, none], []⟩ := by
    have d : decide (hi < lo) = false := decide_eq_false (by omega)
    clear hw hb hl b0 bb hh hs k0 k1 r0 r1 hk hr dm
    unfold q_count_lengths_4
    iterate 3 (walk_at "ev"; try walk_at "evs")
  have q5 : q_count_lengths_5 ⟨[some (.val (.int w)), some (.val (.int b)), some (.val (.int lo)), some (.val (.int hi)), none, none, none, none], []⟩ = .nx ⟨[some (.val (.int w)), some (.val (.int b)), some (.val (.int lo)), some (.val (.int hi)), some (.val (.int k)), some (.val (.int r)), none, none], []⟩ := by
    have d : pDivmod [.int (hi - lo + 1), .int b] = some (.tup [.int k, .int r]) := by
      show (if okDm (hi - lo + 1) b = true then some (PV.tup [.int ((hi - lo + 1) / b), .int ((hi - lo + 1) % b)]) else none) = _
      rw [if_pos dm, hk, hr]
    clear hw hb hl b0 bb hh hs k0 k1 r0 r1 hk hr dm
    unfold q_count_lengths_5
    iterate 3 (walk_at "ev"; try walk_at "evs")
  have q6 : q_count_lengths_6 ⟨[some (.val (.int w)), some (.val (.int b)), some (.val (.int lo)), some (.val (.int hi)), some (.val (.int k)), some (.val (.int r)), none, none], []⟩ = .nx ⟨[some (.val (.int w)), some (.val (.int b)), some (.val (.int lo)), some (.val (.int hi)), some (.val (.int k)), some (.val (.int r)), some (.val (.lst ((flagsL w b lo b.toNat).map PV.bl))), none], []⟩ := by
    have e := compL_map (vs := [7]) (a := l_count_lengths_1c) (ft := l_count_lengths_1d) (fe := l_count_lengths_1e) (s := ⟨[some (.val (.int w)), some (.val (.int b)), some (.val (.int lo)), some (.val (.int hi)), some (.val (.int k)), some (.val (.int r)), none, none], []⟩)
      (fun p => match p with | .int i => some (.bl (fr w b (lo + i))) | _ => none) (rng 0 b.toNat) [] (by rw [rng_length]; simp; omega) (by
      intro p hp
      unfold rng at hp
      obtain ⟨i, hi', rfl⟩ := List.mem_map.mp hp
      have c4 := e_is_free w (lo + (0 + i)) b hw.1 (by omega) b0 bb
      refine ⟨_, rfl, .inl ⟨_, .bl (fr w b (lo + (0 + i))), ⟨[some (.val (.int w)), some (.val (.int b)), some (.val (.int lo)), some (.val (.int hi)), some (.val (.int k)), some (.val (.int r)), none, some (.val (.int (0 + i)))], []⟩, rfl, ?_, rfl, rfl⟩⟩
      clear hp hi' hw hb hl b0 bb c1 c2 c3 q1 q2 q3 q4 q5 hh hs k0 k1 r0 r1 hk hr dm
      unfold l_count_lengths_1e
      iterate 3 (walk_at "ev"; try walk_at "evs"))
    have ef : (rng 0 b.toNat).filterMap (fun p => match p with | .int i => some (.bl (fr w b (lo + i))) | _ => none) = (flagsL w b lo b.toNat).map PV.bl := by
      unfold rng flagsL
      rw [List.filterMap_map, List.map_map]
      have : ((fun p : PV => match p with | .int i => some (PV.bl (fr w b (lo + i))) | _ => none) ∘ fun i : Nat => PV.int (0 + (i : Int))) = fun i : Nat => some (PV.bl (fr w b (lo + (i : Int)))) := by
        funext i
        simp [Function.comp]
      rw [this, filterMap_some']
      rfl
    rw [ef] at e
    clear ef hw hb hl b0 bb c1 c2 c3 q1 q2 q3 q4 q5 hh hs k0 k1 r0 r1 hk hr dm
    unfold q_count_lengths_6
    generalize (flagsL w b lo b.toNat).map PV.bl = fl at *
    iterate 4 (walk_at "ev"; try walk_at "evs")
  have q7 : q_count_lengths_7 ⟨[some (.val (.int w)), some (.val (.int b)), some (.val (.int lo)), some (.val (.int hi)), some (.val (.int k)), some (.val (.int r)), some (.val (.lst ((flagsL w b lo b.toNat).map PV.bl))), none], []⟩ = .rt (.int (cntP (fr w b) lo (hi - lo + 1).toNat : Nat)) ⟨[some (.val (.int w)), some (.val (.int b)), some (.val (.int lo)), some (.val (.int hi)), some (.val (.int k)), some (.val (.int r)), some (.val (.lst ((flagsL w b lo b.toNat).map PV.bl))), none], []⟩ := by
    have s1 : pSum [.lst ((flagsL w b lo b.toNat).map PV.bl)] = some (.int (cntP (fr w b) lo b.toNat : Nat)) := by
      rw [pSum_bls]
      have := flags_count w b lo b.toNat b.toNat (Nat.le_refl _)
      rw [List.take_of_length_le (by unfold flagsL; simp)] at this
      rw [this]
    obtain ⟨rn, hrn⟩ := Int.eq_ofNat_of_zero_le r0
    have s2 : pCut ((flagsL w b lo b.toNat).map PV.bl) none (some r) = ((flagsL w b lo b.toNat).take rn).map PV.bl := by
      rw [hrn]
      show pCut _ none (some ((rn : Nat) : Int)) = _
      rw [cut_take, List.map_take]
    have s3 : pSum [.lst (((flagsL w b lo b.toNat).take rn).map PV.bl)] = some (.int (cntP (fr w b) lo rn : Nat)) := by
      rw [pSum_bls, flags_count w b lo b.toNat rn (by omega)]
    have cl : cntP (fr w b) lo b.toNat ≤ b.toNat := by
      unfold cntP
      have := List.countP_le_length (p := fun i : Nat => fr w b (lo + (i : Int))) (l := List.range b.toNat)
      simpa using this
    have m1 : okMul k (cntP (fr w b) lo b.toNat : Nat) = true := okMul_of (a := 4000) (b := 4000) (Nat.lt_of_le_of_lt (m := hi.natAbs) (by omega) hs) (Nat.lt_of_le_of_lt (m := 4096) (by omega) (by decide +kernel)) (by decide) (by decide) (by decide)
    have fin : k * (cntP (fr w b) lo b.toNat : Nat) + (cntP (fr w b) lo rn : Nat) = ((cntP (fr w b) lo (hi - lo + 1).toNat : Nat) : Int) := by
      obtain ⟨bn, hbn⟩ := Int.eq_ofNat_of_zero_le (show 0 ≤ b by omega)
      obtain ⟨kn, hkn⟩ := Int.eq_ofNat_of_zero_le k0
      have e1 : hi - lo + 1 = b * k + r := by rw [← hk, ← hr]; exact (Int.mul_ediv_add_emod _ _).symm
      have e2 : (hi - lo + 1).toNat = kn * bn + rn := by
        rw [e1, hbn, hkn, hrn]
        show ((bn : Int) * (kn : Int) + (rn : Int)).toNat = _
        rw [← Int.natCast_mul, ← Int.natCast_add, Int.toNat_natCast, Nat.mul_comm]
      have per : ∀ l z : Int, fr w b (l + (bn : Int) * z) = fr w b l := fun l z => by
        have := fr_period w b l z
        rw [hbn] at this ⊢
        exact this
      have ebn : b.toNat = bn := by rw [hbn]; rfl
      rw [e2, cnt_add, cnt_period per lo kn, ebn]
      have e3 : cntP (fr w b) (lo + ((kn * bn : Nat) : Int)) rn = cntP (fr w b) lo rn := cnt_congr rn fun i => by
        have := per (lo + i) kn
        rw [show lo + ((kn * bn : Nat) : Int) + (i : Int) = lo + i + (bn : Int) * (kn : Int) by push_cast; rw [Int.mul_comm]; omega, this]
      rw [e3, hkn]
      push_cast
      rfl
    clear cl hrn hw hb hl b0 bb c1 c2 c3 q1 q2 q3 q4 q5 q6 hh hs k0 k1 r0 r1 hk hr dm
    unfold q_count_lengths_7
    generalize (flagsL w b lo b.toNat).map PV.bl = fl at *
    generalize ((flagsL w b lo b.toNat).take rn).map PV.bl = fl2 at *
    iterate 4 (walk_at "ev"; try walk_at "evs")
  unfold m_count_lengths
  rw [g_count_lengths_eq]
  simp only [mOf, start0, List.map_cons, List.map_nil, List.length_cons, List.length_nil, Nat.reduceAdd, Nat.reduceSub, List.replicate, List.cons_append, List.nil_append]
  rw [seq_nx q1, seq_nx q2, seq_nx q3, seq_nx q4, seq_nx q5, seq_nx q6, seq_rt q7]
  rfl
end PM

/-! PWN: waves of lanes: the plain law. -/
namespace PN
def lastOf (l h s r : Int) : Int := firstOf l s r + s * (lanesOf l h s r - 1)
def wavesWith (l h s r W : Int) : Int := if lanesOf l h s r = 0 ∨ W ≤ s then lanesOf l h s r else lastOf l h s r / W - firstOf l s r / W + 1
def fullIn (l h s r W t : Int) : Int := if 1 < s ∧ 1 < W then (if t % W = 1 ∧ l ≤ t - 1 ∧ t - 1 < h ∧ (t - 1) % s = r then 1 else 0) else if W = 1 then lanesOf l h s r else max 0 ((if h = t then (h + W - 1) / W else h / W) - (l + W - 1) / W)
/-- two numbers of one remainder, less than the step apart -/
theorem same_of {s x y : Int} (hs : 0 < s) (h : x % s = y % s) (h1 : x - y < s) (h2 : y - x < s) : x = y := by
  obtain ⟨k, hk⟩ := dvd_of_emod h
  have : k = 0 := by
    rcases Int.lt_trichotomy k 0 with z | z | z
    · have : s * k ≤ s * (-1) := Int.mul_le_mul_of_nonneg_left (by omega) (by omega)
      omega
    · exact z
    · have : s * 1 ≤ s * k := Int.mul_le_mul_of_nonneg_left (by omega) (by omega)
      omega
  subst this
  omega
theorem lanes_end {l h s r : Int} (hs : 0 < s) : h ≤ firstOf l s r + s * lanesOf l h s r := by
  have := lanes_lt (l := l) (h := h) (r := r) hs (lanes_nonneg l h s r)
  omega
theorem last_lt {l h s r : Int} (hs : 0 < s) (hm : 0 < lanesOf l h s r) : lastOf l h s r < h := by
  unfold lastOf
  exact (lanes_lt hs (by omega)).mp (by omega)
theorem add_mul_mod (a s k : Int) : (a + s * k) % s = a % s := by rw [Int.add_mul_emod_self_left]
theorem last_law {l h s r : Int} (hs : 0 < s) (h0 : 0 ≤ r) (h1 : r < s) :
    (lanesOf l h s r = 0 → h - 1 - (h - 1 - r) % s < firstOf l s r) ∧ (0 < lanesOf l h s r → h - 1 - (h - 1 - r) % s = lastOf l h s r ∧ firstOf l s r ≤ lastOf l h s r) := by
  have e0 := Int.emod_nonneg (h - 1 - r) (show s ≠ 0 by omega)
  have e1 := Int.emod_lt_of_pos (h - 1 - r) hs
  constructor
  · intro z
    have := lanes_end (l := l) (h := h) (r := r) hs
    rw [z, Int.mul_zero] at this
    omega
  · intro z
    have a := last_lt hs z
    have b := lanes_end (l := l) (h := h) (r := r) hs
    have fm := first_mod (l := l) hs h0 h1
    have em : (h - 1 - (h - 1 - r) % s) % s = lastOf l h s r % s := by
      unfold lastOf
      rw [add_mul_mod, fm, Int.emod_def (h - 1 - r) s, show h - 1 - (h - 1 - r - s * ((h - 1 - r) / s)) = r + s * ((h - 1 - r) / s) by omega, add_mul_mod]
      exact Int.emod_eq_of_lt h0 h1
    have c : lastOf l h s r = firstOf l s r + s * lanesOf l h s r - s := by unfold lastOf; rw [Int.mul_sub]; omega
    refine ⟨same_of hs em (by omega) (by omega), ?_⟩
    unfold lastOf
    have : 0 ≤ s * (lanesOf l h s r - 1) := Int.mul_nonneg (by omega) (by omega)
    omega
theorem waves_law {l h s r W : Int} (hs : 0 < s) (hW : 0 < W) (h0 : 0 ≤ r) (h1 : r < s) :
    wavesWith l h s r W = if h - 1 - (h - 1 - r) % s < firstOf l s r then 0 else if s ≤ W then (h - 1 - (h - 1 - r) % s) / W - firstOf l s r / W + 1 else (h - 1 - (h - 1 - r) % s - firstOf l s r) / s + 1 := by
  obtain ⟨a, b⟩ := last_law (l := l) (h := h) hs h0 h1
  have n := lanes_nonneg l h s r
  unfold wavesWith
  by_cases z : lanesOf l h s r = 0
  · rw [if_pos (.inl z), if_pos (a z), z]
  · obtain ⟨c, d⟩ := b (by omega)
    rw [c, if_neg (show ¬ lastOf l h s r < firstOf l s r by omega)]
    by_cases w : W ≤ s
    · rw [if_pos (.inr w)]
      by_cases w2 : s ≤ W
      · rw [if_pos w2]
        have e : s = W := by omega
        subst e
        unfold lastOf
        rw [Int.add_mul_ediv_left _ _ (by omega)]
        omega
      · rw [if_neg w2]
        unfold lastOf
        rw [show firstOf l s r + s * (lanesOf l h s r - 1) - firstOf l s r = s * (lanesOf l h s r - 1) by omega, Int.mul_ediv_cancel_left _ (by omega)]
        omega
    · rw [if_neg (by omega), if_pos (by omega)]
theorem lanes_split' {l m h s r : Int} (hs : 0 < s) (h0 : 0 ≤ r) (h1 : r < s) (a : l ≤ m) (b : m ≤ h) : lanesOf l m s r + lanesOf m h s r = lanesOf l h s r := by
  rw [← listed_len (l := l) (h := m) hs h0 h1, ← listed_len (l := m) (h := h) hs h0 h1, ← listed_len (l := l) (h := h) hs h0 h1]
  have e : listed l h s r = listed l m s r ++ listed m h s r := by
    refine asc_ext (listed_asc ..) ?_ fun x => ?_
    · refine List.pairwise_append.mpr ⟨listed_asc .., listed_asc .., fun x hx y hy => ?_⟩
      rw [mem_listed] at hx hy
      omega
    · rw [List.mem_append, mem_listed, mem_listed, mem_listed]
      omega
  rw [e, List.length_append]
  push_cast
  rfl
theorem first_split {l m s r : Int} (hs : 0 < s) (h0 : 0 ≤ r) (h1 : r < s) (a : l ≤ m) : firstOf m s r = firstOf l s r + s * lanesOf l m s r := by
  have e1 := lanes_end (l := l) (h := m) (r := r) hs
  have f1 := first_ge (l := m) (r := r) hs
  have f2 := first_lt (l := m) (r := r) hs
  have f3 := first_lt (l := l) (r := r) hs
  refine same_of hs ?_ (by omega) ?_
  · rw [add_mul_mod, first_mod hs h0 h1, first_mod hs h0 h1]
  · have n := lanes_nonneg l m s r
    by_cases z : lanesOf l m s r = 0
    · rw [z, Int.mul_zero]; omega
    · have := last_lt (l := l) (h := m) (r := r) hs (by omega)
      unfold lastOf at this
      rw [Int.mul_sub] at this
      omega
theorem waves_add {l c h s r W : Int} (hs : 0 < s) (hW : 0 < W) (h0 : 0 ≤ r) (h1 : r < s) (a : l ≤ c) (b : c ≤ h) (hc : c % W = 0) : wavesWith l c s r W + wavesWith c h s r W = wavesWith l h s r W := by
  have sp := lanes_split' hs h0 h1 a b
  have fs := first_split (l := l) (m := c) hs h0 h1 a
  have n1 := lanes_nonneg l c s r
  have n2 := lanes_nonneg c h s r
  unfold wavesWith
  by_cases w : W ≤ s
  · rw [if_pos (.inr w), if_pos (.inr w), if_pos (.inr w), sp]
  · have key : lastOf c h s r = lastOf l h s r := by
      unfold lastOf
      rw [fs, ← sp, Int.mul_sub, Int.mul_sub, Int.mul_add]
      omega
    by_cases z1 : lanesOf l c s r = 0
    · rw [z1, Int.mul_zero, Int.add_zero] at fs
      rw [z1, Int.zero_add] at sp
      rw [if_pos (.inl z1), z1, key, fs, sp, Int.zero_add]
    · by_cases z2 : lanesOf c h s r = 0
      · rw [z2, Int.add_zero] at sp
        rw [if_pos (show lanesOf c h s r = 0 ∨ W ≤ s from .inl z2), z2]
        have : lastOf l c s r = lastOf l h s r := by unfold lastOf; rw [sp]
        rw [this, sp, Int.add_zero]
      · rw [if_neg (by omega), if_neg (by omega), if_neg (by omega), key]
        have x1 := last_lt (l := l) (h := c) (r := r) hs (by omega)
        have x2 : firstOf c s r = lastOf l c s r + s := by unfold lastOf; rw [fs, Int.mul_sub]; omega
        have f1 := first_ge (l := c) (r := r) hs
        have f2 := first_lt (l := c) (r := r) hs
        obtain ⟨q, hq⟩ := Int.dvd_of_emod_eq_zero hc
        have y1 : lastOf l c s r / W = q - 1 := by
          have a1 : q - 1 ≤ lastOf l c s r / W := (Int.le_ediv_iff_mul_le hW).mpr (by rw [Int.sub_mul, Int.mul_comm q]; omega)
          have a2 : lastOf l c s r / W < q := (Int.ediv_lt_iff_lt_mul hW).mpr (by rw [Int.mul_comm q]; omega)
          omega
        have y2 : firstOf c s r / W = q := by
          have a1 : q ≤ firstOf c s r / W := (Int.le_ediv_iff_mul_le hW).mpr (by rw [Int.mul_comm q]; omega)
          have a2 : firstOf c s r / W < q + 1 := (Int.ediv_lt_iff_lt_mul hW).mpr (by rw [Int.add_mul, Int.mul_comm q]; omega)
          omega
        rw [y1, y2]
        omega
theorem ceil_div {h W : Int} (hW : 0 < W) : (h + W - 1) / W = h / W + if h % W > 0 then 1 else 0 := by
  have e0 := Int.emod_nonneg h (show W ≠ 0 by omega)
  have e1 := Int.emod_lt_of_pos h hW
  have e2 := Int.mul_ediv_add_emod h W
  split
  · have a1 : h / W + 1 ≤ (h + W - 1) / W := (Int.le_ediv_iff_mul_le hW).mpr (by rw [Int.add_mul, Int.mul_comm (h / W)]; omega)
    have a2 : (h + W - 1) / W < h / W + 2 := (Int.ediv_lt_iff_lt_mul hW).mpr (by rw [Int.add_mul, Int.mul_comm (h / W)]; omega)
    omega
  · have a1 : h / W ≤ (h + W - 1) / W := (Int.le_ediv_iff_mul_le hW).mpr (by rw [Int.mul_comm (h / W)]; omega)
    have a2 : (h + W - 1) / W < h / W + 1 := (Int.ediv_lt_iff_lt_mul hW).mpr (by rw [Int.add_mul, Int.mul_comm (h / W)]; omega)
    omega
theorem full_add {l c h s r W t : Int} (hs : 0 < s) (hW : 0 < W) (h0 : 0 ≤ r) (h1 : r < s) (a : l ≤ c) (b : c ≤ h) (ht : h ≤ t) (hc : c % W = 0) : fullIn l c s r W t + fullIn c h s r W t = fullIn l h s r W t := by
  unfold fullIn
  by_cases z : 1 < s ∧ 1 < W
  · simp only [if_pos z]
    by_cases g : t % W = 1 ∧ (t - 1) % s = r
    · obtain ⟨g1, g2⟩ := g
      simp only [g1, g2, true_and, and_true]
      split <;> split <;> split <;> omega
    · have g' : ∀ x y : Int, ¬ (t % W = 1 ∧ x ≤ t - 1 ∧ t - 1 < y ∧ (t - 1) % s = r) := fun x y q => g ⟨q.1, q.2.2.2⟩
      rw [if_neg (g' _ _), if_neg (g' _ _), if_neg (g' _ _)]
      rfl
  · simp only [if_neg z]
    by_cases w : W = 1
    · simp only [if_pos w]
      exact lanes_split' hs h0 h1 a b
    · simp only [if_neg w]
      obtain ⟨q, hq⟩ := Int.dvd_of_emod_eq_zero hc
      have cw : (c + W - 1) / W = c / W := by rw [ceil_div hW, hc]; simp
      have cq : c / W = q := by rw [hq, Int.mul_ediv_cancel_left _ (by omega)]
      have e1 : (if c = t then (c + W - 1) / W else c / W) = q := by split <;> omega
      have b1 : (l + W - 1) / W < q + 1 := (Int.ediv_lt_iff_lt_mul hW).mpr (by rw [Int.add_mul, Int.mul_comm q]; omega)
      have b2 : q ≤ h / W := (Int.le_ediv_iff_mul_le hW).mpr (by rw [Int.mul_comm q]; omega)
      have b3 : h / W ≤ (h + W - 1) / W := Int.ediv_le_ediv hW (by omega)
      rw [e1, cw, cq]
      split <;> omega
theorem full_law {l h s r W t : Int} (hs : 0 < s) (hW : 0 < W) (a : l ≤ h) (ht : h ≤ t) :
    fullIn l h s r W t = if 1 < s ∧ 1 < W then (if t % W = 1 ∧ h = t ∧ (t - 1) % s = r ∧ l < t then 1 else 0) else if W = 1 then lanesOf l h s r else max 0 (h / W + (if h = t ∧ t % W > 0 then 1 else 0) - (l + W - 1) / W) := by
  unfold fullIn
  by_cases z : 1 < s ∧ 1 < W
  · simp only [if_pos z]
    split <;> split <;> omega
  · simp only [if_neg z]
    by_cases w : W = 1
    · simp only [if_pos w]
    · simp only [if_neg w]
      by_cases e : h = t
      · subst e
        rw [if_pos rfl, ceil_div hW]
        simp
      · rw [if_neg e, if_neg (fun q => e q.1)]
        simp
end PN

/-! PW: kernels made, and what waves.py answers. -/
namespace PM
open PySem PySem.Spec PyProof.Rows L2 PL PN
local macro_rules | `(tactic| walk_at "ev") => `(tactic| try simp only [mOf, endF, start0, gSeq, gNop, gAsg, gRet, gRetO, gAsgO, gDrop, gIf, gOpt, gPar, gPar3, gAug, aName, asNil, asCons, aTup, aLst, setV, setO, eVar, eC, eBin, eUn, eTup, aNil, aCons, oLst, frz, eCall, oCall, avN, avK, permL, lNil, lPv, lSl, tOf, tTru, tNt, tAn, tOrr, eIf, eAn, eOr, eNt, eChain, eCallB, eIxM, gSetIx, getM, pTru, pAdd, pSub, pMul, pFdiv, pMod, pPow, pNeg, pLt, pLe, pGt, pGe, pIs, pIsNot, pAddI, pIx, pLen, pAbs, pMax2, pMin2, Res.bind_ok, Res.bind_ex, Res.bind_stuck, Res.fl_ok, Res.fl_ex, Res.fl_stuck, Res.opt_some, Res.opt_none, lowerA, keyOf, getK, getAll, setAll, setK, distinct, List.map_cons, List.map_nil, List.length_cons, List.length_nil, List.replicate, List.cons_append, List.nil_append, List.append_nil, List.getElem?_cons_zero, List.getElem?_cons_succ, List.getElem?_nil, List.set_cons_zero, List.set_cons_succ, List.filterMap_cons, List.filterMap_nil, Option.bind_some, Option.map_some, Option.elim_some, if_true, if_false, Nat.reduceAdd, Nat.reduceSub, Nat.reduceEqDiff, Nat.reduceLeDiff, ↓reduceIte, Bool.false_eq_true, at0, at1, at2, at3, pEq, pNe, eqB_int, Option.some.injEq, decide_true, decide_false, not_true_eq_false, not_false_eq_true, Bool.and_true, ne_eq, reduceCtorEq, Bool.true_eq_false, Bool.not_true, Bool.not_false, frz, noEx, wipeS, wipeR, backS, backR, keepV, oComp, gFor, iAny, iRange1, iRange2, iRange3, iRangeW1, iRangeW2, eCallQ, oRgW2, oRgW, iEnumQ, eDct, iTxt, eFld, eMake, gSetFld, eFldM, eTupV, putP, eLenSet, gFrz, Nat.reduceLT, oRg2, oRg1, oRg, tYesD, pIn, pNotIn, eSl, pNo, pSo, forL_nil, gApp, gParO, List.not_mem_nil, List.not_mem_nil])
local macro_rules | `(tactic| walk_at "evs") => `(tactic| simp only [*, mOf, endF, start0, gSeq, gNop, gAsg, gRet, gRetO, gAsgO, gDrop, gIf, gOpt, gPar, gPar3, gAug, aName, asNil, asCons, aTup, aLst, setV, setO, eVar, eC, eBin, eUn, eTup, aNil, aCons, oLst, frz, eCall, oCall, avN, avK, permL, lNil, lPv, lSl, tOf, tTru, tNt, tAn, tOrr, eIf, eAn, eOr, eNt, eChain, eCallB, eIxM, gSetIx, getM, pTru, pAdd, pSub, pMul, pFdiv, pMod, pPow, pNeg, pLt, pLe, pGt, pGe, pIs, pIsNot, pAddI, pIx, pLen, pAbs, pMax2, pMin2, Res.bind_ok, Res.bind_ex, Res.bind_stuck, Res.fl_ok, Res.fl_ex, Res.fl_stuck, Res.opt_some, Res.opt_none, lowerA, keyOf, getK, getAll, setAll, setK, distinct, List.map_cons, List.map_nil, List.length_cons, List.length_nil, List.replicate, List.cons_append, List.nil_append, List.append_nil, List.getElem?_cons_zero, List.getElem?_cons_succ, List.getElem?_nil, List.set_cons_zero, List.set_cons_succ, List.filterMap_cons, List.filterMap_nil, Option.bind_some, Option.map_some, Option.elim_some, if_true, if_false, Nat.reduceAdd, Nat.reduceSub, Nat.reduceEqDiff, Nat.reduceLeDiff, ↓reduceIte, Bool.false_eq_true, at0, at1, at2, at3, pEq, pNe, eqB_int, Option.some.injEq, decide_true, decide_false, not_true_eq_false, not_false_eq_true, Bool.and_true, ne_eq, reduceCtorEq, Bool.true_eq_false, Bool.not_true, Bool.not_false, frz, noEx, wipeS, wipeR, backS, backR, keepV, oComp, gFor, iAny, iRange1, iRange2, iRange3, iRangeW1, iRangeW2, eCallQ, oRgW2, oRgW, iEnumQ, eDct, iTxt, eFld, eMake, gSetFld, eFldM, eTupV, putP, eLenSet, gFrz, Nat.reduceLT, oRg2, oRg1, oRg, tYesD, pIn, pNotIn, eSl, pNo, pSo, forL_nil, gApp, gParO, List.not_mem_nil, List.not_mem_nil, eq_self, not_true_eq_false, not_false_eq_true, ix30, ix31, ix32, Bool.and_self, and_self, and_true, true_and])
noncomputable def l_Kernel___init___1b : PV → Stt → Option Stt := (aTup 2 (asCons (aName 4) (asCons (aName 5) asNil)))
noncomputable def l_Kernel___init___1c_s1 : Stt → Fl := (gIf (tNt (tTru (eCall PM.m_is_statement (avN 2 (lPv (eVar 5) (lPv (eVar 1) lNil)))))) (gSeq (fun _ => Fl.stuck) gNop) gNop)
noncomputable def l_Kernel___init___1c : Stt → Fl := (gSeq l_Kernel___init___1c_s1 gNop)
noncomputable def q_Kernel___init___1 : Stt → Fl := (gIf (tOf (eBin pLt (eVar 1) (eC (.int 1)))) (gSeq (fun _ => Fl.stuck) gNop) gNop)
noncomputable def q_Kernel___init___2 : Stt → Fl := (gFor (iEnumQ (aCons (eVar 2) aNil)) l_Kernel___init___1b l_Kernel___init___1c)
noncomputable def q_Kernel___init___3 : Stt → Fl := (gDrop (eCall PM.m_check_barriers (avN 2 (lPv (eVar 3) (lPv (eCallB pLen (aCons (eVar 2) aNil)) lNil)))))
noncomputable def q_Kernel___init___4 : Stt → Fl := (gSetFld 0 "Kernel" "lane_count" (eVar 1))
noncomputable def q_Kernel___init___5 : Stt → Fl := (gSetFld 0 "Kernel" "kept_statements" (eTupV (eVar 2)))
noncomputable def q_Kernel___init___6 : Stt → Fl := (gSetFld 0 "Kernel" "kept_barriers" (eTupV (eVar 3)))
theorem g_Kernel___init___eq : g_Kernel___init__ = (gSeq q_Kernel___init___1 (gSeq q_Kernel___init___2 (gSeq q_Kernel___init___3 (gSeq q_Kernel___init___4 (gSeq q_Kernel___init___5 (gSeq q_Kernel___init___6 gNop)))))) := rfl
noncomputable def l_is_statement_1c : PV → Stt → Option Stt := (aName 2)
noncomputable def l_is_statement_1d : Stt → Res Bool := tYesD
noncomputable def l_is_statement_1e : Stt → Res PV := (eCall PM.m_is_array (avN 1 (lPv (eBin pIx (eVar 0) (eVar 2)) lNil)))
noncomputable def q_is_statement_1 : Stt → Fl := (gIf (tOf (eBin pNe (eDct [("put" , .int 7) , ("move" , .int 9) , ("sum" , .int 11)] (eBin pIx (eVar 0) (eC (.int 0)))) (eCallB pLen (aCons (eVar 0) aNil)))) (gSeq (gRet (eC (.bl false))) gNop) gNop)
noncomputable def q_is_statement_2 : Stt → Fl := (gIf (tNt (tTru (eCallB pAll (aCons (frz (oComp [2] (iAny (eDct [("put" , .tup [.int 2]) , ("move" , .tup [.int 2, .int 5]) , ("sum" , .tup [.int 2, .int 5, .int 8])] (eBin pIx (eVar 0) (eC (.int 0))))) l_is_statement_1c l_is_statement_1d l_is_statement_1e)) aNil)))) (gSeq (gRet (eC (.bl false))) gNop) gNop)
noncomputable def q_is_statement_3 : Stt → Fl := (gRet (eAn (eCall PM.m_is_guard (avN 1 (lPv (eBin pIx (eVar 0) (eC (.int 1))) lNil))) (eBin pLe (eBin pIx (eBin pIx (eVar 0) (eC (.int 1))) (eC (.int 1))) (eVar 1))))
theorem g_is_statement_eq : g_is_statement = (gSeq q_is_statement_1 (gSeq q_is_statement_2 (gSeq q_is_statement_3 gNop))) := rfl
noncomputable def l_is_array_1c : PV → Stt → Option Stt := (aName 1)
noncomputable def l_is_array_1d : Stt → Res Bool := tYesD
noncomputable def l_is_array_1e : Stt → Res PV := (eBin pInSg (eVar 1) (eC (.str "abcdefghijklmnopqrstuvwxyz")))
noncomputable def q_is_array_1 : Stt → Fl := (gRet (eAn (eChain pLe pLe (eC (.int 1)) (eCallB pLen (aCons (eVar 0) aNil)) (eC (.int 8))) (eCallB pAll (aCons (frz (oComp [1] (iTxt (eVar 0)) l_is_array_1c l_is_array_1d l_is_array_1e)) aNil))))
theorem g_is_array_eq : g_is_array = (gSeq q_is_array_1 gNop) := rfl
noncomputable def l_check_barriers_1b : PV → Stt → Option Stt := (aTup 2 (asCons (aName 3) (asCons (aName 4) asNil)))
noncomputable def l_check_barriers_1c_s1 : Stt → Fl := (gIf (tNt (tOf (eChain pLt pLt (eVar 2) (eVar 4) (eVar 1)))) (gSeq (fun _ => Fl.stuck) gNop) gNop)
noncomputable def l_check_barriers_1c_s2 : Stt → Fl := (gAsg (eVar 4) (aName 2))
noncomputable def l_check_barriers_1c : Stt → Fl := (gSeq l_check_barriers_1c_s1 (gSeq l_check_barriers_1c_s2 gNop))
noncomputable def q_check_barriers_1 : Stt → Fl := (gAsg (eC (.int 0)) (aName 2))
noncomputable def q_check_barriers_2 : Stt → Fl := (gFor (iEnumQ (aCons (eVar 0) aNil)) l_check_barriers_1b l_check_barriers_1c)
theorem g_check_barriers_eq : g_check_barriers = (gSeq q_check_barriers_1 (gSeq q_check_barriers_2 gNop)) := rfl
noncomputable def q_count_waves_1 : Stt → Fl := (gDrop (eCall PM.m_check_statement (avN 2 (lPv (eVar 0) (lPv (eVar 1) lNil)))))
noncomputable def q_count_waves_2 : Stt → Fl := (gDrop (eCall PM.m_check_wave (avN 1 (lPv (eVar 2) lNil))))
noncomputable def q_count_waves_3 : Stt → Fl := (gRet (eCall PM.m_waves_with (avN 2 (lPv (eBin pIx (eBin pIx (eFld "Kernel" "kept_statements" (eVar 0)) (eVar 1)) (eC (.int 1))) (lPv (eVar 2) lNil)))))
theorem g_count_waves_eq : g_count_waves = (gSeq q_count_waves_1 (gSeq q_count_waves_2 (gSeq q_count_waves_3 gNop))) := rfl
noncomputable def q_full_waves_1 : Stt → Fl := (gDrop (eCall PM.m_check_statement (avN 2 (lPv (eVar 0) (lPv (eVar 1) lNil)))))
noncomputable def q_full_waves_2 : Stt → Fl := (gDrop (eCall PM.m_check_wave (avN 1 (lPv (eVar 2) lNil))))
noncomputable def q_full_waves_3 : Stt → Fl := (gRet (eCall PM.m_full_in (avN 3 (lPv (eBin pIx (eBin pIx (eFld "Kernel" "kept_statements" (eVar 0)) (eVar 1)) (eC (.int 1))) (lPv (eVar 2) (lPv (eFld "Kernel" "lane_count" (eVar 0)) lNil))))))
theorem g_full_waves_eq : g_full_waves = (gSeq q_full_waves_1 (gSeq q_full_waves_2 (gSeq q_full_waves_3 gNop))) := rfl
noncomputable def q_lanes_in_wave_1 : Stt → Fl := (gDrop (eCall PM.m_check_statement (avN 2 (lPv (eVar 0) (lPv (eVar 1) lNil)))))
noncomputable def q_lanes_in_wave_2 : Stt → Fl := (gDrop (eCall PM.m_check_wave (avN 1 (lPv (eVar 2) lNil))))
noncomputable def q_lanes_in_wave_3 : Stt → Fl := (gDrop (eCall PM.m_check_wave_number (avN 3 (lPv (eVar 0) (lPv (eVar 2) (lPv (eVar 3) lNil))))))
noncomputable def q_lanes_in_wave_4 : Stt → Fl := (gRet (eCall PM.m_lanes_of (avN 1 (lPv (eCall PM.m_in_wave (avN 3 (lPv (eBin pIx (eBin pIx (eFld "Kernel" "kept_statements" (eVar 0)) (eVar 1)) (eC (.int 1))) (lPv (eVar 2) (lPv (eVar 3) lNil))))) lNil))))
theorem g_lanes_in_wave_eq : g_lanes_in_wave = (gSeq q_lanes_in_wave_1 (gSeq q_lanes_in_wave_2 (gSeq q_lanes_in_wave_3 (gSeq q_lanes_in_wave_4 gNop)))) := rfl
noncomputable def q_full_in_1 : Stt → Fl := (gAsg (eVar 0) (aTup 4 (asCons (aName 3) (asCons (aName 4) (asCons (aName 5) (asCons (aName 6) asNil))))))
noncomputable def q_full_in_2 : Stt → Fl := (gIf (tAn (tOf (eBin pGt (eVar 5) (eC (.int 1)))) (tOf (eBin pGt (eVar 1) (eC (.int 1))))) (gSeq (gRet (eCallB pInt1 (aCons (eAn (eBin pEq (eBin pMod (eVar 2) (eVar 1)) (eC (.int 1))) (eCall PM.m_has (avN 2 (lPv (eVar 0) (lPv (eBin pSub (eVar 2) (eC (.int 1))) lNil))))) aNil))) gNop) gNop)
noncomputable def q_full_in_3 : Stt → Fl := (gIf (tOf (eBin pEq (eVar 1) (eC (.int 1)))) (gSeq (gRet (eCall PM.m_lanes_of (avN 1 (lPv (eVar 0) lNil)))) gNop) gNop)
noncomputable def q_full_in_4 : Stt → Fl := (gAsg (eBin pFdiv (eBin pSub (eBin pAdd (eVar 3) (eVar 1)) (eC (.int 1))) (eVar 1)) (aName 7))
noncomputable def q_full_in_5 : Stt → Fl := (gAsg (eIf (tOf (eBin pEq (eVar 4) (eVar 2))) (eBin pFdiv (eBin pSub (eBin pAdd (eVar 4) (eVar 1)) (eC (.int 1))) (eVar 1)) (eBin pFdiv (eVar 4) (eVar 1))) (aName 8))
noncomputable def q_full_in_6 : Stt → Fl := (gRet (eCallB pMax2 (aCons (eC (.int 0)) (aCons (eBin pSub (eVar 8) (eVar 7)) aNil))))
theorem g_full_in_eq : g_full_in = (gSeq q_full_in_1 (gSeq q_full_in_2 (gSeq q_full_in_3 (gSeq q_full_in_4 (gSeq q_full_in_5 (gSeq q_full_in_6 gNop)))))) := rfl
abbrev letters : Str := "abcdefghijklmnopqrstuvwxyz"
/-- a name of an array -/
structure ArrN (z : Str) : Prop where
  l0 : 1 ≤ z.length
  l1 : z.length ≤ 8
  sg : ∀ c ∈ z.cps.toList, c ∈ letters.cps.toList
theorem all_true : ∀ l : List PV, allBl (l.map fun _ => PV.bl true) = some (l.map fun _ => true)
  | [] => rfl
  | p :: r => by simp only [List.map_cons, allBl, all_true r, Option.map_some]
theorem pAll_true (l : List PV) : pAll [.lst (l.map fun _ => PV.bl true)] = some (.bl true) := by
  unfold pAll
  simp only [all_true, Option.map_some]
  congr 2
  rw [List.all_eq_true]
  intro b hb
  obtain ⟨p, _, rfl⟩ := List.mem_map.mp hb
  rfl
theorem e_is_array {z : Str} (h : ArrN z) : m_is_array [.val (.str z)] [] = .ok (.bl true) [] := by
  have hz : z.length = z.cps.size := rfl
  have l1 := h.l1
  have l0 := h.l0
  have e := compL_map (vs := [1]) (a := l_is_array_1c) (ft := l_is_array_1d) (fe := l_is_array_1e) (s := ⟨[some (.val (.str z)), none], []⟩)
    (fun _ => some (.bl true)) (PL.signs z) [] (by unfold PL.signs; simp; omega) (by
      intro p hp
      unfold PL.signs at hp
      obtain ⟨c, hc, rfl⟩ := List.mem_map.mp hp
      have hin := h.sg c hc
      refine ⟨_, rfl, .inl ⟨_, .bl true, ⟨[some (.val (.str z)), some (.val (.str ⟨#[c]⟩))], []⟩, rfl, ?_, rfl, rfl⟩⟩
      have k : pInSg (.str ⟨#[c]⟩) (.str letters) = some (.bl true) := by
        show some (PV.bl (decide (c ∈ letters.cps.toList))) = _
        rw [decide_eq_true hin]
      clear hp hc hin h l0 l1 hz
      unfold l_is_array_1e
      iterate 3 (walk_at "ev"; try walk_at "evs"))
  have ef : (PL.signs z).filterMap (fun _ => some (PV.bl true)) = (PL.signs z).map fun _ => PV.bl true := filterMap_some' (fun _ => PV.bl true) (PL.signs z)
  rw [ef, List.nil_append] at e
  have k1 : decide (1 ≤ (z.length : Int)) = true := decide_eq_true (by omega)
  have k2 : decide ((z.length : Int) ≤ 8) = true := decide_eq_true (by omega)
  have k3 : (z.length ≤ 16777216) = True := eq_true (by omega)
  have k4 := pAll_true (PL.signs z)
  clear h l0 l1 hz ef
  unfold m_is_array
  rw [g_is_array_eq]
  unfold q_is_array_1
  generalize (PL.signs z).map (fun _ => PV.bl true) = S at *
  iterate 4 (walk_at "ev"; try walk_at "evs")
theorem arr_x : ArrN "x" := ⟨by decide, by decide, by decide +kernel⟩
/-- a put -/
abbrev putP' (g : PV) (z : Str) (a b c d : Int) : PV := .tup [.str "put", g, .str z, .int a, .int b, .int c, .int d]
theorem look_items : List.lookup (Str.ofString "put") [((Str.ofString "put"), PV.int 7), ((Str.ofString "move"), PV.int 9), ((Str.ofString "sum"), PV.int 11)] = some (.int 7) := rfl
theorem look_places : List.lookup (Str.ofString "put") [((Str.ofString "put"), PV.tup [.int 2]), ((Str.ofString "move"), PV.tup [.int 2, .int 5]), ((Str.ofString "sum"), PV.tup [.int 2, .int 5, .int 8])] = some (.tup [.int 2]) := rfl
theorem e_is_put {z : Str} (hz : ArrN z) (l h s r a b c d n : Int) : m_is_statement [.val (putP' (gt l h s r) z a b c d), .val (.int n)] [] = .ok (.bl (isGuard l h s r && decide (h ≤ n))) [] := by
  have c1 := e_is_array hz
  have c2 := e_is_guard l h s r
  have e := compL_map (vs := [2]) (a := l_is_statement_1c) (ft := l_is_statement_1d) (fe := l_is_statement_1e) (s := ⟨[some (.val (putP' (gt l h s r) z a b c d)), some (.val (.int n)), none], []⟩)
    (fun _ => some (.bl true)) [.int 2] [] (by simp) (by
      intro p hp
      have hp' : p = .int 2 := by simpa using hp
      subst hp'
      refine ⟨_, rfl, .inl ⟨_, .bl true, ⟨[some (.val (putP' (gt l h s r) z a b c d)), some (.val (.int n)), some (.val (.int 2))], []⟩, rfl, ?_, rfl, rfl⟩⟩
      clear hp hz c2
      unfold l_is_statement_1e
      iterate 3 (walk_at "ev"; try walk_at "evs"))
  have ef : ([.int 2] : List PV).filterMap (fun _ => some (PV.bl true)) = [PV.bl true] := rfl
  rw [ef, List.nil_append] at e
  have k1 := look_items
  have k2 := look_places
  have k3 : pAll [.lst [PV.bl true]] = some (.bl true) := rfl
  have k4 : (!(7 : Int) == ((7 : Nat) : Int)) = false := rfl
  clear ef hz
  unfold m_is_statement
  rw [g_is_statement_eq]
  have t1 : q_is_statement_1 ⟨[some (.val (putP' (gt l h s r) z a b c d)), some (.val (.int n)), none], []⟩ = .nx ⟨[some (.val (putP' (gt l h s r) z a b c d)), some (.val (.int n)), none], []⟩ := by
    clear e c1 c2 k2 k3
    unfold q_is_statement_1
    iterate 4 (walk_at "ev"; try walk_at "evs")
  have t2 : q_is_statement_2 ⟨[some (.val (putP' (gt l h s r) z a b c d)), some (.val (.int n)), none], []⟩ = .nx ⟨[some (.val (putP' (gt l h s r) z a b c d)), some (.val (.int n)), none], []⟩ := by
    clear c1 c2 k1 k4 t1
    unfold q_is_statement_2
    iterate 5 (walk_at "ev"; try walk_at "evs")
  have t3 : q_is_statement_3 ⟨[some (.val (putP' (gt l h s r) z a b c d)), some (.val (.int n)), none], []⟩ = .rt (.bl (isGuard l h s r && decide (h ≤ n))) ⟨[some (.val (putP' (gt l h s r) z a b c d)), some (.val (.int n)), none], []⟩ := by
    clear e c1 k1 k2 k3 k4 t1 t2
    unfold q_is_statement_3
    generalize isGuard l h s r = G at *
    cases G
    · simp only [Bool.false_and]
      iterate 4 (walk_at "ev"; try walk_at "evs")
    · simp only [Bool.true_and]
      iterate 4 (walk_at "ev"; try walk_at "evs")
  simp only [mOf, start0, List.map_cons, List.map_nil, List.length_cons, List.length_nil, Nat.reduceAdd, Nat.reduceSub, List.replicate, List.cons_append, List.nil_append]
  rw [seq_nx t1, seq_nx t2, seq_rt t3]
  rfl
abbrev kern (n : Int) (sts bars : List PV) : PV := .ins "Kernel" [("lane_count", .int n), ("kept_statements", .tup sts), ("kept_barriers", .tup bars)]
theorem e_no_barriers (k : Int) : m_check_barriers [.val (.tup []), .val (.int k)] [] = .ok .non [] := by
  unfold m_check_barriers
  rw [g_check_barriers_eq]
  unfold q_check_barriers_1 q_check_barriers_2
  have h0 : enumP [] = [] := rfl
  iterate 4 (walk_at "ev"; try walk_at "evs")
/-- a kernel without barriers is made -/
theorem e_kernel (n : Int) (hn : 1 ≤ n) (sts : List PV) (hs : ∀ p ∈ sts, m_is_statement [.val p, .val (.int n)] [] = .ok (.bl true) []) :
    m_Kernel___init__ [.bor 0, .val (.int n), .val (.lst sts), .val (.tup [])] [.ins "Kernel" []] = .ok .non [.ins "Kernel" [("lane_count", .int n), ("kept_statements", .tup sts), ("kept_barriers", .tup [])]] := by
  obtain ⟨s2, e2, x, y, rfl⟩ := forL_all (a := l_Kernel___init___1b) (b := l_Kernel___init___1c) (fun s => ∃ x y : Option SV, s = ⟨[some (.bor 0), some (.val (.int n)), some (.val (.lst sts)), some (.val (.tup [])), x, y], [.ins "Kernel" []]⟩) (l := enumP sts) (s := ⟨[some (.bor 0), some (.val (.int n)), some (.val (.lst sts)), some (.val (.tup [])), none, none], [.ins "Kernel" []]⟩) ⟨none, none, rfl⟩ (by
    rintro p s hp ⟨x, y, rfl⟩
    obtain ⟨i, q, hq, rfl⟩ : ∃ (i : Int) (q : PV), q ∈ sts ∧ p = .tup [.int i, q] := by
      obtain ⟨i, hi⟩ := List.mem_iff_getElem?.mp hp
      have hl : i < sts.length := by
        have := (List.getElem?_eq_some_iff.mp hi).1
        rwa [enumP_len] at this
      refine ⟨i, sts[i], List.getElem_mem hl, ?_⟩
      unfold enumP zipP at hi
      rw [List.getElem?_zipWith] at hi
      simp [hl] at hi
      exact hi.symm
    have c := hs q hq
    refine ⟨⟨[some (.bor 0), some (.val (.int n)), some (.val (.lst sts)), some (.val (.tup [])), some (.val (.int i)), some (.val q)], [.ins "Kernel" []]⟩, ?_, ⟨[some (.bor 0), some (.val (.int n)), some (.val (.lst sts)), some (.val (.tup [])), some (.val (.int i)), some (.val q)], [.ins "Kernel" []]⟩, .inl ?_, _, _, rfl⟩
    · clear hs hp hq c hn
      unfold l_Kernel___init___1b
      iterate 3 (walk_at "ev"; try walk_at "evs")
    · clear hs hp hq hn
      unfold l_Kernel___init___1c l_Kernel___init___1c_s1
      iterate 3 (walk_at "ev"; try walk_at "evs"))
  have k1 : decide (n < 1) = false := decide_eq_false (by omega)
  have t1 : q_Kernel___init___1 ⟨[some (.bor 0), some (.val (.int n)), some (.val (.lst sts)), some (.val (.tup [])), none, none], [.ins "Kernel" []]⟩ = .nx ⟨[some (.bor 0), some (.val (.int n)), some (.val (.lst sts)), some (.val (.tup [])), none, none], [.ins "Kernel" []]⟩ := by
    clear e2 hs hn
    unfold q_Kernel___init___1
    iterate 3 (walk_at "ev"; try walk_at "evs")
  have t2 : q_Kernel___init___2 ⟨[some (.bor 0), some (.val (.int n)), some (.val (.lst sts)), some (.val (.tup [])), none, none], [.ins "Kernel" []]⟩ = .nx ⟨[some (.bor 0), some (.val (.int n)), some (.val (.lst sts)), some (.val (.tup [])), x, y], [.ins "Kernel" []]⟩ := by
    clear hs hn k1 t1
    unfold q_Kernel___init___2
    iterate 3 (walk_at "ev"; try walk_at "evs")
  have t3 : q_Kernel___init___3 ⟨[some (.bor 0), some (.val (.int n)), some (.val (.lst sts)), some (.val (.tup [])), x, y], [.ins "Kernel" []]⟩ = .nx ⟨[some (.bor 0), some (.val (.int n)), some (.val (.lst sts)), some (.val (.tup [])), x, y], [.ins "Kernel" []]⟩ := by
    have c := e_no_barriers (sts.length : Nat)
    clear hs hn k1 t1 t2 e2
    unfold q_Kernel___init___3
    iterate 3 (walk_at "ev"; try walk_at "evs")
  have t4 : q_Kernel___init___4 ⟨[some (.bor 0), some (.val (.int n)), some (.val (.lst sts)), some (.val (.tup [])), x, y], [.ins "Kernel" []]⟩ = .nx ⟨[some (.bor 0), some (.val (.int n)), some (.val (.lst sts)), some (.val (.tup [])), x, y], [.ins "Kernel" [("lane_count", .int n)]]⟩ := rfl
  have t5 : q_Kernel___init___5 ⟨[some (.bor 0), some (.val (.int n)), some (.val (.lst sts)), some (.val (.tup [])), x, y], [.ins "Kernel" [("lane_count", .int n)]]⟩ = .nx ⟨[some (.bor 0), some (.val (.int n)), some (.val (.lst sts)), some (.val (.tup [])), x, y], [.ins "Kernel" [("lane_count", .int n), ("kept_statements", .tup sts)]]⟩ := rfl
  have t6 : q_Kernel___init___6 ⟨[some (.bor 0), some (.val (.int n)), some (.val (.lst sts)), some (.val (.tup [])), x, y], [.ins "Kernel" [("lane_count", .int n), ("kept_statements", .tup sts)]]⟩ = .nx ⟨[some (.bor 0), some (.val (.int n)), some (.val (.lst sts)), some (.val (.tup [])), x, y], [.ins "Kernel" [("lane_count", .int n), ("kept_statements", .tup sts), ("kept_barriers", .tup [])]]⟩ := rfl
  unfold m_Kernel___init__
  rw [g_Kernel___init___eq]
  simp only [mOf, start0, List.map_cons, List.map_nil, List.length_cons, List.length_nil, Nat.reduceAdd, Nat.reduceSub, List.replicate, List.cons_append, List.nil_append]
  rw [seq_nx t1, seq_nx t2, seq_nx t3, seq_nx t4, seq_nx t5, seq_nx t6]
  rfl
end PM

/-! PW2: what waves.py answers of a kernel. -/
namespace PM
open PySem PySem.Spec PyProof.Rows L2 PL PN
local macro_rules | `(tactic| walk_at "ev") => `(tactic| try simp only [mOf, endF, start0, gSeq, gNop, gAsg, gRet, gRetO, gAsgO, gDrop, gIf, gOpt, gPar, gPar3, gAug, aName, asNil, asCons, aTup, aLst, setV, setO, eVar, eC, eBin, eUn, eTup, aNil, aCons, oLst, frz, eCall, oCall, avN, avK, permL, lNil, lPv, lSl, tOf, tTru, tNt, tAn, tOrr, eIf, eAn, eOr, eNt, eChain, eCallB, eIxM, gSetIx, getM, pTru, pAdd, pSub, pMul, pFdiv, pMod, pPow, pNeg, pLt, pLe, pGt, pGe, pIs, pIsNot, pAddI, pIx, pLen, pAbs, pMax2, pMin2, Res.bind_ok, Res.bind_ex, Res.bind_stuck, Res.fl_ok, Res.fl_ex, Res.fl_stuck, Res.opt_some, Res.opt_none, lowerA, keyOf, getK, getAll, setAll, setK, distinct, List.map_cons, List.map_nil, List.length_cons, List.length_nil, List.replicate, List.cons_append, List.nil_append, List.append_nil, List.getElem?_cons_zero, List.getElem?_cons_succ, List.getElem?_nil, List.set_cons_zero, List.set_cons_succ, List.filterMap_cons, List.filterMap_nil, Option.bind_some, Option.map_some, Option.elim_some, if_true, if_false, Nat.reduceAdd, Nat.reduceSub, Nat.reduceEqDiff, Nat.reduceLeDiff, ↓reduceIte, Bool.false_eq_true, at0, at1, at2, at3, pEq, pNe, eqB_int, Option.some.injEq, decide_true, decide_false, not_true_eq_false, not_false_eq_true, Bool.and_true, ne_eq, reduceCtorEq, Bool.true_eq_false, Bool.not_true, Bool.not_false, frz, noEx, wipeS, wipeR, backS, backR, keepV, oComp, gFor, iAny, iRange1, iRange2, iRange3, iRangeW1, iRangeW2, eCallQ, oRgW2, oRgW, pInt1, iEnumQ, eDct, iTxt, eFld, eMake, gSetFld, eFldM, eTupV, putP, eLenSet, gFrz, Nat.reduceLT, oRg2, oRg1, oRg, tYesD, pIn, pNotIn, eSl, pNo, pSo, forL_nil, gApp, gParO, List.not_mem_nil, List.not_mem_nil])
local macro_rules | `(tactic| walk_at "evs") => `(tactic| simp only [*, mOf, endF, start0, gSeq, gNop, gAsg, gRet, gRetO, gAsgO, gDrop, gIf, gOpt, gPar, gPar3, gAug, aName, asNil, asCons, aTup, aLst, setV, setO, eVar, eC, eBin, eUn, eTup, aNil, aCons, oLst, frz, eCall, oCall, avN, avK, permL, lNil, lPv, lSl, tOf, tTru, tNt, tAn, tOrr, eIf, eAn, eOr, eNt, eChain, eCallB, eIxM, gSetIx, getM, pTru, pAdd, pSub, pMul, pFdiv, pMod, pPow, pNeg, pLt, pLe, pGt, pGe, pIs, pIsNot, pAddI, pIx, pLen, pAbs, pMax2, pMin2, Res.bind_ok, Res.bind_ex, Res.bind_stuck, Res.fl_ok, Res.fl_ex, Res.fl_stuck, Res.opt_some, Res.opt_none, lowerA, keyOf, getK, getAll, setAll, setK, distinct, List.map_cons, List.map_nil, List.length_cons, List.length_nil, List.replicate, List.cons_append, List.nil_append, List.append_nil, List.getElem?_cons_zero, List.getElem?_cons_succ, List.getElem?_nil, List.set_cons_zero, List.set_cons_succ, List.filterMap_cons, List.filterMap_nil, Option.bind_some, Option.map_some, Option.elim_some, if_true, if_false, Nat.reduceAdd, Nat.reduceSub, Nat.reduceEqDiff, Nat.reduceLeDiff, ↓reduceIte, Bool.false_eq_true, at0, at1, at2, at3, pEq, pNe, eqB_int, Option.some.injEq, decide_true, decide_false, not_true_eq_false, not_false_eq_true, Bool.and_true, ne_eq, reduceCtorEq, Bool.true_eq_false, Bool.not_true, Bool.not_false, frz, noEx, wipeS, wipeR, backS, backR, keepV, oComp, gFor, iAny, iRange1, iRange2, iRange3, iRangeW1, iRangeW2, eCallQ, oRgW2, oRgW, pInt1, iEnumQ, eDct, iTxt, eFld, eMake, gSetFld, eFldM, eTupV, putP, eLenSet, gFrz, Nat.reduceLT, oRg2, oRg1, oRg, tYesD, pIn, pNotIn, eSl, pNo, pSo, forL_nil, gApp, gParO, List.not_mem_nil, List.not_mem_nil, eq_self, not_true_eq_false, not_false_eq_true, ix30, ix31, ix32, Bool.and_self, and_self, and_true, true_and])
/-- a guard of numbers that are not too great -/
structure Gs (l h s r : Int) : Prop where
  l0 : 0 ≤ l
  lh : l ≤ h
  hb : h < 2 ^ 200
  r0 : 0 ≤ r
  r1 : r < s
  sb : s < 2 ^ 200
theorem Gs.s0 {l h s r : Int} (g : Gs l h s r) : 0 < s := by have := g.r0; have := g.r1; omega
theorem Gs.guard {l h s r : Int} (g : Gs l h s r) : isGuard l h s r = true := guard_iff.mpr ⟨g.l0, g.lh, g.r0, g.r1⟩
theorem Gs.okd {l h s r : Int} (g : Gs l h s r) : okDiv s = true := okDiv_of (b := 4000) (by have := g.s0; omega) (by have := g.s0; have := g.sb; have : (2 : Int) ^ 200 < ((2 ^ 4000 : Nat) : Int) := (by decide +kernel); omega) (by decide) (by decide)
theorem lanes_le' {l h s r : Int} (hs : 0 < s) (a : l ≤ h) : lanesOf l h s r ≤ h - l := by
  have n := lanes_nonneg l h s r
  by_cases z : lanesOf l h s r = 0
  · omega
  · have := last_lt (l := l) (h := h) (r := r) hs (by omega)
    have f := first_ge (l := l) (r := r) hs
    unfold lastOf at this
    have : 1 * (lanesOf l h s r - 1) ≤ s * (lanesOf l h s r - 1) := Int.mul_le_mul_of_nonneg_right (by omega) (by omega)
    omega
theorem e_last {l h s r : Int} (g : Gs l h s r) : m_last_of [.val (gt l h s r)] [] = .ok (.int (lastOf l h s r)) [] := by
  have c1 := e_lanes_of l h s r g.s0 g.okd
  have n := lanes_nonneg l h s r
  have le := lanes_le' (l := l) (h := h) (r := r) g.s0 g.lh
  have b1 : (lanesOf l h s r - 1).natAbs < 2 ^ 300 := by
    have := g.hb; have := g.l0
    have : (2 : Int) ^ 200 + 10 < ((2 ^ 300 : Nat) : Int) := (by decide +kernel)
    omega
  have b2 : s.natAbs < 2 ^ 300 := by
    have := g.sb; have := g.s0
    have : (2 : Int) ^ 200 + 10 < ((2 ^ 300 : Nat) : Int) := (by decide +kernel)
    omega
  have c2 := e_lane_at l h s r (lanesOf l h s r - 1) g.s0 (okMul_of (a := 300) (b := 300) b2 b1 (by decide) (by decide) (by decide))
  rw [show firstOf l s r + s * (lanesOf l h s r - 1) = lastOf l h s r from rfl] at c2
  clear g n le b1 b2
  unfold m_last_of g_last_of
  iterate 4 (walk_at "ev"; try walk_at "evs")
theorem e_lonely (l h s r W : Int) : m_are_lonely [.val (gt l h s r), .val (.int W)] [] = .ok (.bl (decide (s ≥ W))) [] := by
  unfold m_are_lonely g_are_lonely
  iterate 4 (walk_at "ev"; try walk_at "evs")
theorem okDiv32 {W : Int} (h : 1 ≤ W ∧ W ≤ 32) : okDiv W = true := okDiv_of (b := 40) (by omega) (Nat.lt_of_le_of_lt (m := 32) (by omega) (by decide +kernel)) (by decide) (by decide)
theorem e_waves_with {l h s r W : Int} (g : Gs l h s r) (hW : 1 ≤ W ∧ W ≤ 32) : m_waves_with [.val (gt l h s r), .val (.int W)] [] = .ok (.int (wavesWith l h s r W)) [] := by
  have c1 := e_lanes_of l h s r g.s0 g.okd
  have c2 := e_lonely l h s r W
  have c3 := e_last g
  have c4 := e_first_of l h s r g.s0
  have k1 := okDiv32 hW
  have k2 : (lastOf l h s r).fdiv W = lastOf l h s r / W := Int.fdiv_eq_ediv_of_nonneg _ (by omega)
  have k3 : (firstOf l s r).fdiv W = firstOf l s r / W := Int.fdiv_eq_ediv_of_nonneg _ (by omega)
  unfold wavesWith
  by_cases z : lanesOf l h s r = 0
  · have k4 : (lanesOf l h s r == 0) = true := by simp [z]
    have k5 : (if lanesOf l h s r = 0 ∨ W ≤ s then lanesOf l h s r else lastOf l h s r / W - firstOf l s r / W + 1) = lanesOf l h s r := if_pos (.inl z)
    rw [k5]
    clear g hW z k5
    generalize lanesOf l h s r = L at *
    unfold m_waves_with g_waves_with
    iterate 4 (walk_at "ev"; try walk_at "evs")
  · have k4 : (lanesOf l h s r == 0) = false := by simp [z]
    by_cases w : W ≤ s
    · have k6 : decide (s ≥ W) = true := decide_eq_true w
      have k5 : (if lanesOf l h s r = 0 ∨ W ≤ s then lanesOf l h s r else lastOf l h s r / W - firstOf l s r / W + 1) = lanesOf l h s r := if_pos (.inr w)
      rw [k5]
      clear g hW z k5 w
      generalize lanesOf l h s r = L at *
      unfold m_waves_with g_waves_with
      iterate 4 (walk_at "ev"; try walk_at "evs")
    · have k6 : decide (s ≥ W) = false := decide_eq_false w
      have k5 : (if lanesOf l h s r = 0 ∨ W ≤ s then lanesOf l h s r else lastOf l h s r / W - firstOf l s r / W + 1) = lastOf l h s r / W - firstOf l s r / W + 1 := if_neg (by omega)
      rw [k5]
      clear g hW z k5 w
      generalize lanesOf l h s r = L at *
      unfold m_waves_with g_waves_with
      iterate 4 (walk_at "ev"; try walk_at "evs")
/-- the kernel's i-th statement has the guard -/
structure Kst (sts : List PV) (i : Int) (l h s r : Int) : Prop where
  i0 : 0 ≤ i
  i1 : i < sts.length
  st : ∃ st, atI sts i = some (.tup st) ∧ atI st 1 = some (gt l h s r)
theorem e_check_statement {n : Int} {sts bars : List PV} {i l h s r : Int} (k : Kst sts i l h s r) : m_check_statement [.val (kern n sts bars), .val (.int i)] [] = .ok .non [] := by
  have k1 : decide (0 ≤ i) = true := decide_eq_true k.i0
  have k2 : decide (i < (sts.length : Int)) = true := decide_eq_true k.i1
  have k3 : List.lookup (Str.ofString "kept_statements") [(Str.ofString "lane_count", PV.int n), (Str.ofString "kept_statements", PV.tup sts), (Str.ofString "kept_barriers", PV.tup bars)] = some (.tup sts) := rfl
  clear k
  unfold m_check_statement g_check_statement
  iterate 4 (walk_at "ev"; try walk_at "evs")
theorem e_count_waves {n : Int} {sts bars : List PV} {i l h s r W : Int} (k : Kst sts i l h s r) (g : Gs l h s r) (hW : 1 ≤ W ∧ W ≤ 32) : m_count_waves [.val (kern n sts bars), .val (.int i), .val (.int W)] [] = .ok (.int (wavesWith l h s r W)) [] := by
  have c1 := e_check_statement (n := n) (bars := bars) k
  have c2 := e_check_wave W hW
  have c3 := e_waves_with g hW
  have k3 : List.lookup (Str.ofString "kept_statements") [(Str.ofString "lane_count", PV.int n), (Str.ofString "kept_statements", PV.tup sts), (Str.ofString "kept_barriers", PV.tup bars)] = some (.tup sts) := rfl
  obtain ⟨st, s1, s2⟩ := k.st
  clear k g hW
  unfold m_count_waves g_count_waves
  iterate 5 (walk_at "ev"; try walk_at "evs")
theorem isLane_and (c : Bool) (l h s r x : Int) : (if (c && isLane l h s r x) = true then (1 : Int) else 0) = if c = true ∧ l ≤ x ∧ x < h ∧ x % s = r then 1 else 0 := by
  unfold isLane
  cases c <;> simp
theorem e_full_in {l h s r W n : Int} (g : Gs l h s r) (hW : 1 ≤ W ∧ W ≤ 32) : m_full_in [.val (gt l h s r), .val (.int W), .val (.int n)] [] = .ok (.int (fullIn l h s r W n)) [] := by
  have c1 := e_lanes_of l h s r g.s0 g.okd
  have c2 := e_has l h s r (n - 1) g.s0
  have k1 := okDiv32 hW
  have km : n.fmod W = n % W := Int.fmod_eq_emod_of_nonneg _ (by omega)
  have kz : (W = 0) = False := by simp; omega
  have d1 : (l + W - 1).fdiv W = (l + W - 1) / W := Int.fdiv_eq_ediv_of_nonneg _ (by omega)
  have d2 : (h + W - 1).fdiv W = (h + W - 1) / W := Int.fdiv_eq_ediv_of_nonneg _ (by omega)
  have d3 : h.fdiv W = h / W := Int.fdiv_eq_ediv_of_nonneg _ (by omega)
  have t1 : q_full_in_1 ⟨[some (.val (gt l h s r)), some (.val (.int W)), some (.val (.int n)), none, none, none, none, none, none], []⟩ = .nx ⟨[some (.val (gt l h s r)), some (.val (.int W)), some (.val (.int n)), some (.val (.int l)), some (.val (.int h)), some (.val (.int s)), some (.val (.int r)), none, none], []⟩ := rfl
  have key : ∀ z : Stt → Fl, mOf 9 (gSeq q_full_in_1 z) [.val (gt l h s r), .val (.int W), .val (.int n)] [] = endF (z ⟨[some (.val (gt l h s r)), some (.val (.int W)), some (.val (.int n)), some (.val (.int l)), some (.val (.int h)), some (.val (.int s)), some (.val (.int r)), none, none], []⟩) := fun z => by
    simp only [mOf, start0, List.map_cons, List.map_nil, List.length_cons, List.length_nil, Nat.reduceAdd, Nat.reduceSub, List.replicate, List.cons_append, List.nil_append]
    rw [seq_nx t1]
  unfold m_full_in
  rw [g_full_in_eq, key]
  clear key t1
  unfold fullIn
  by_cases z : 1 < s ∧ 1 < W
  · have b1 : decide (s > 1) = true := decide_eq_true z.1
    have b2 : decide (W > 1) = true := decide_eq_true z.2
    rw [if_pos z]
    have e : (if n % W = 1 ∧ l ≤ n - 1 ∧ n - 1 < h ∧ (n - 1) % s = r then (1 : Int) else 0) = if ((n % W == 1) && isLane l h s r (n - 1)) = true then 1 else 0 := by
      rw [isLane_and]
      simp
    rw [e]
    clear g hW z c1 e d1 d2 d3
    have em := eqB_int (n % W) 1
    generalize (n % W == 1) = B at *
    generalize isLane l h s r (n - 1) = B2 at *
    unfold q_full_in_2
    cases B
    · simp only [Bool.false_and]
      iterate 4 (walk_at "ev"; try walk_at "evs")
    · simp only [Bool.true_and]
      iterate 4 (walk_at "ev"; try walk_at "evs")
  · rw [if_neg z]
    have t2 : q_full_in_2 ⟨[some (.val (gt l h s r)), some (.val (.int W)), some (.val (.int n)), some (.val (.int l)), some (.val (.int h)), some (.val (.int s)), some (.val (.int r)), none, none], []⟩ = .nx ⟨[some (.val (gt l h s r)), some (.val (.int W)), some (.val (.int n)), some (.val (.int l)), some (.val (.int h)), some (.val (.int s)), some (.val (.int r)), none, none], []⟩ := by
      unfold q_full_in_2
      by_cases y : 1 < s
      · have b1 : decide (s > 1) = true := decide_eq_true y
        have b2 : decide (W > 1) = false := decide_eq_false (fun q => z ⟨y, q⟩)
        clear g hW z y c1 c2 km d1 d2 d3
        iterate 4 (walk_at "ev"; try walk_at "evs")
      · have b1 : decide (s > 1) = false := decide_eq_false y
        clear g hW z y c1 c2 km d1 d2 d3
        iterate 4 (walk_at "ev"; try walk_at "evs")
    rw [seq_nx t2]
    clear t2
    by_cases w : W = 1
    · rw [if_pos w]
      have b1 : (W == 1) = true := by simp [w]
      clear g hW z w c2 km d1 d2 d3 k1
      unfold q_full_in_3
      iterate 4 (walk_at "ev"; try walk_at "evs")
    · rw [if_neg w]
      have b1 : (W == 1) = false := by simp [w]
      have mx : ∀ a b : Int, (if a - b > 0 then a - b else 0) = max 0 (a - b) := fun a b => by split <;> omega
      by_cases y : h = n
      · have b2 : (h == n) = true := by simp [y]
        rw [if_pos y]
        clear g hW z w y c2 km c1
        unfold q_full_in_3 q_full_in_4 q_full_in_5 q_full_in_6
        iterate 5 (walk_at "ev"; try walk_at "evs")
      · have b2 : (h == n) = false := by simp [y]
        rw [if_neg y]
        clear g hW z w y c2 km c1
        unfold q_full_in_3 q_full_in_4 q_full_in_5 q_full_in_6
        iterate 5 (walk_at "ev"; try walk_at "evs")
theorem e_full_waves {n : Int} {sts bars : List PV} {i l h s r W : Int} (k : Kst sts i l h s r) (g : Gs l h s r) (hW : 1 ≤ W ∧ W ≤ 32) : m_full_waves [.val (kern n sts bars), .val (.int i), .val (.int W)] [] = .ok (.int (fullIn l h s r W n)) [] := by
  have c1 := e_check_statement (n := n) (bars := bars) k
  have c2 := e_check_wave W hW
  have c3 := e_full_in (n := n) g hW
  have k3 : List.lookup (Str.ofString "kept_statements") [(Str.ofString "lane_count", PV.int n), (Str.ofString "kept_statements", PV.tup sts), (Str.ofString "kept_barriers", PV.tup bars)] = some (.tup sts) := rfl
  have k4 : List.lookup (Str.ofString "lane_count") [(Str.ofString "lane_count", PV.int n), (Str.ofString "kept_statements", PV.tup sts), (Str.ofString "kept_barriers", PV.tup bars)] = some (.int n) := rfl
  obtain ⟨st, s1, s2⟩ := k.st
  clear k g hW
  unfold m_full_waves g_full_waves
  iterate 5 (walk_at "ev"; try walk_at "evs")
theorem e_in_wave {l h s r W j : Int} (hm : okMul W j = true) : m_in_wave [.val (gt l h s r), .val (.int W), .val (.int j)] [] = .ok (gt (max l (W * j)) (min h (W * j + W)) s r) [] := by
  have m1 : (if W * j > l then W * j else l) = max l (W * j) := by split <;> omega
  have m2 : (if W * j + W < h then W * j + W else h) = min h (W * j + W) := by split <;> omega
  unfold m_in_wave g_in_wave
  iterate 5 (walk_at "ev"; try walk_at "evs")
theorem e_check_wave_number {n : Int} {sts bars : List PV} {W j : Int} (hW : 1 ≤ W ∧ W ≤ 32) (j0 : 0 ≤ j) (j1 : j < (n + W - 1) / W) : m_check_wave_number [.val (kern n sts bars), .val (.int W), .val (.int j)] [] = .ok .non [] := by
  have k1 := okDiv32 hW
  have k2 : (n + W - 1).fdiv W = (n + W - 1) / W := Int.fdiv_eq_ediv_of_nonneg _ (by omega)
  have k3 : decide (0 ≤ j) = true := decide_eq_true j0
  have k4 : decide (j < (n + W - 1) / W) = true := decide_eq_true j1
  have k5 : List.lookup (Str.ofString "lane_count") [(Str.ofString "lane_count", PV.int n), (Str.ofString "kept_statements", PV.tup sts), (Str.ofString "kept_barriers", PV.tup bars)] = some (.int n) := rfl
  have c : m_wave_count [.val (kern n sts bars), .val (.int W)] [] = .ok (.int ((n + W - 1) / W)) [] := by
    clear hW j0 j1 k3 k4
    unfold m_wave_count g_wave_count
    iterate 5 (walk_at "ev"; try walk_at "evs")
  clear hW j0 j1 k1 k2
  unfold m_check_wave_number g_check_wave_number
  iterate 5 (walk_at "ev"; try walk_at "evs")
theorem e_lanes_in_wave {n : Int} {sts bars : List PV} {i l h s r W j : Int} (k : Kst sts i l h s r) (g : Gs l h s r) (hW : 1 ≤ W ∧ W ≤ 32) (j0 : 0 ≤ j) (j1 : j < (n + W - 1) / W) (hm : okMul W j = true) :
    m_lanes_in_wave [.val (kern n sts bars), .val (.int i), .val (.int W), .val (.int j)] [] = .ok (.int (lanesOf (max l (W * j)) (min h (W * j + W)) s r)) [] := by
  have c1 := e_check_statement (n := n) (bars := bars) k
  have c2 := e_check_wave W hW
  have c3 := e_check_wave_number (n := n) (sts := sts) (bars := bars) hW j0 j1
  have c4 := e_in_wave (l := l) (h := h) (s := s) (r := r) hm
  have c5 := e_lanes_of (max l (W * j)) (min h (W * j + W)) s r g.s0 g.okd
  have k3 : List.lookup (Str.ofString "kept_statements") [(Str.ofString "lane_count", PV.int n), (Str.ofString "kept_statements", PV.tup sts), (Str.ofString "kept_barriers", PV.tup bars)] = some (.tup sts) := rfl
  obtain ⟨st, s1, s2⟩ := k.st
  clear k g hW j0 j1 hm
  unfold m_lanes_in_wave g_lanes_in_wave
  iterate 5 (walk_at "ev"; try walk_at "evs")
end PM

namespace K39
open PySem PySem.Spec PyProof.Rows L2 PL
/-! ### the text by places -/
def top (i : Nat) : Stmt := PySem.Challenge.pw_stridelanes_k39_waves_by_lanes.main.body.getD i (.Pass ⟨0, 0, 0, 0⟩)
abbrev s_check_barriers : Stmt := top 21
abbrev s_is_array : Stmt := top 19
abbrev s_is_guard : Stmt := top 9
abbrev s_is_statement : Stmt := top 20
abbrev s_Kernel___init__ : Stmt := clsAt (top 22) 0
abbrev s__law_draw : Stmt := top 40
abbrev s__law_guard : Stmt := top 41
abbrev s__law_pool : Stmt := top 39
abbrev s__law_own : Stmt := top 42
abbrev s__law_waves : Stmt := top 44
abbrev s_check_statement : Stmt := top 23
abbrev s_check_wave : Stmt := top 26
abbrev s_are_lonely : Stmt := top 32
abbrev s_first_of : Stmt := top 10
abbrev s_lanes_of : Stmt := top 11
abbrev s_lane_at : Stmt := top 12
abbrev s_last_of : Stmt := top 31
abbrev s_waves_with : Stmt := top 33
abbrev s_count_waves : Stmt := top 35
abbrev s_has : Stmt := top 13
abbrev s_full_in : Stmt := top 34
abbrev s_full_waves : Stmt := top 36
abbrev s_wave_count : Stmt := top 28
abbrev s_check_wave_number : Stmt := top 29
abbrev s_in_wave : Stmt := top 30
abbrev s_lanes_in_wave : Stmt := top 37
abbrev s__law_right : Stmt := top 45
abbrev s__law_span : Stmt := top 43
abbrev s_law : Stmt := top 46
/-! ### the mirrors -/
noncomputable def g__law_guard : Stt → Fl :=
  (gSeq (gAsg (eBin pIx (frz (oLst (aCons (eC (.int 0)) (aCons (eCall PM.m__law_draw_2 (avN 2 (lSl 0 (lPv (eBin pAdd (eVar 1) (eC (.int 1))) lNil)))) aNil)))) (eCall PM.m__law_draw_2 (avN 2 (lSl 0 (lPv (eC (.int 2)) lNil))))) (aName 2))
  (gSeq (gAsg (eBin pIx (frz (oLst (aCons (eVar 1) (aCons (eBin pAdd (eVar 2) (eCall PM.m__law_draw_2 (avN 2 (lSl 0 (lPv (eBin pAdd (eBin pSub (eVar 1) (eVar 2)) (eC (.int 1))) lNil))))) aNil)))) (eCall PM.m__law_draw_2 (avN 2 (lSl 0 (lPv (eC (.int 2)) lNil))))) (aName 3))
  (gSeq (gAsg (eBin pIx (frz (oLst (aCons (eC (.int 1)) (aCons (eC (.int 1)) (aCons (eC (.int 1)) (aCons (eC (.int 2)) (aCons (eC (.int 3)) (aCons (eC (.int 4)) (aCons (eC (.int 5)) (aCons (eC (.int 7)) (aCons (eC (.int 33)) (aCons (eBin pAdd (eC (.int 8)) (eCall PM.m__law_draw_2 (avN 2 (lSl 0 (lPv (eC (.int 24)) lNil))))) aNil)))))))))))) (eCall PM.m__law_draw_2 (avN 2 (lSl 0 (lPv (eC (.int 10)) lNil))))) (aName 4))
  (gSeq (gRet (eTup (aCons (eVar 2) (aCons (eVar 3) (aCons (eVar 4) (aCons (eCall PM.m__law_draw_2 (avN 2 (lSl 0 (lPv (eVar 4) lNil)))) aNil))))))
  gNop))))
noncomputable def m__law_guard : List SV → List MO → FRes := mOf 5 g__law_guard
noncomputable def g__law_own : Stt → Fl :=
  (gSeq (gAsg (eVar 0) (aTup 4 (asCons (aName 1) (asCons (aName 2) (asCons (aName 3) (asCons (aName 4) asNil))))))
  (gSeq (gRet (frz (oComp [5] (iRangeW2 (aCons (eVar 1) (aCons (eVar 2) aNil))) (aName 5) (tOf (eBin pEq (eBin pMod (eVar 5) (eVar 3)) (eVar 4))) (eVar 5))))
  gNop))
noncomputable def m__law_own : List SV → List MO → FRes := mOf 6 g__law_own
noncomputable def g__law_waves : Stt → Fl :=
  (gSeq (gAsgO 3 (oCompN [5] (iRange3 (aCons (eC (.int 0)) (aCons (eVar 1) (aCons (eVar 2) aNil)))) (aName 5)))
  (gSeq (gFor (iAny (eCall m__law_own (avN 1 (lPv (eVar 0) lNil)))) (aName 4)
  (gSeq (gAppN 3 (eBin pFdiv (eVar 4) (eVar 2)) 4)
  gNop))
  (gSeq (gFrzL 3) (gSeq (gRet (eVar 3))
  gNop))))
noncomputable def m__law_waves : List SV → List MO → FRes := mOf 6 g__law_waves
noncomputable def g__law_right : Stt → Fl :=
  (gSeq (gAsg (eCall m__law_waves (avN 3 (lPv (eVar 2) (lPv (eVar 3) (lPv (eVar 4) lNil))))) (aName 5))
  (gSeq (gAsg (frz (oComp [10, 11] (iEnumQ (aCons (eVar 5) aNil)) (aTup 2 (asCons (aName 10) (asCons (aName 11) asNil))) (tOf (eBin pEq (eCallB pLen (aCons (eVar 11) aNil)) (eCallB pMin2 (aCons (eVar 4) (aCons (eBin pSub (eVar 3) (eBin pMul (eVar 4) (eVar 10))) aNil))))) (eVar 11))) (aName 6))
  (gSeq (gAsg (frz (oLst (aCons (eCallB pLen (aCons (frz (oComp [11] (iAny (eVar 5)) (aName 11) (tOf (eBin pNe (eVar 11) (frz (oLst aNil)))) (eVar 11))) aNil)) (aCons (eCallB pLen (aCons (eVar 6) aNil)) aNil)))) (aName 7))
  (gSeq (gIf (tOf (eBin pNe (frz (oLst (aCons (eCall PM.m_count_waves (avN 3 (lPv (eVar 0) (lPv (eVar 1) (lPv (eVar 4) lNil))))) (aCons (eCall PM.m_full_waves (avN 3 (lPv (eVar 0) (lPv (eVar 1) (lPv (eVar 4) lNil))))) aNil)))) (eVar 7)))
  (gSeq (gRet (eC (.bl false)))
  gNop)
  gNop)
  (gSeq (gIf (tOf (eBin pNe (frz (oLst (aCons (eCall PM.m_count_waves (avN 3 (avK 0 3 [2, 1, 0] lNil (lPv (eVar 4) (lPv (eVar 1) (lPv (eVar 0) lNil)))))) (aCons (eCall PM.m_full_waves (avN 3 (avK 0 3 [2, 1, 0] lNil (lPv (eVar 4) (lPv (eVar 1) (lPv (eVar 0) lNil)))))) aNil)))) (eVar 7)))
  (gSeq (gRet (eC (.bl false)))
  gNop)
  gNop)
  (gSeq (gAsg (frz (oComp [10] (iRangeW1 (aCons (eCallB pLen (aCons (eVar 5) aNil)) aNil)) (aName 10) tYesD (eCall PM.m_lanes_in_wave (avN 4 (lPv (eVar 0) (lPv (eVar 1) (lPv (eVar 4) (lPv (eVar 10) lNil)))))))) (aName 8))
  (gSeq (gAsg (eCall PM.m_lanes_in_wave (avN 4 (avK 0 4 [3, 2, 1, 0] lNil (lPv (eBin pSub (eCallB pLen (aCons (eVar 5) aNil)) (eC (.int 1))) (lPv (eVar 4) (lPv (eVar 1) (lPv (eVar 0) lNil))))))) (aName 9))
  (gSeq (gRet (eAn (eBin pEq (eVar 8) (frz (oComp [11] (iAny (eVar 5)) (aName 11) tYesD (eCallB pLen (aCons (eVar 11) aNil))))) (eBin pEq (eVar 9) (eBin pIx (eVar 8) (eUn pNeg (eC (.int 1)))))))
  gNop))))))))
noncomputable def m__law_right : List SV → List MO → FRes := mOf 12 g__law_right
noncomputable def g__law_span : Stt → Fl :=
  (gSeq (gRet (eBin pIx (frz (oLst (aCons (eC (.int 1)) (aCons (eC (.int 2)) (aCons (eC (.int 3)) (aCons (eC (.int 4)) (aCons (eC (.int 5)) (aCons (eC (.int 8)) (aCons (eC (.int 16)) (aCons (eC (.int 31)) (aCons (eC (.int 32)) (aCons (eBin pAdd (eC (.int 1)) (eCall PM.m__law_draw_2 (avN 2 (lSl 0 (lPv (eC (.int 32)) lNil))))) aNil)))))))))))) (eCall PM.m__law_draw_2 (avN 2 (lSl 0 (lPv (eC (.int 10)) lNil))))))
  gNop)
noncomputable def m__law_span : List SV → List MO → FRes := mOf 1 g__law_span
noncomputable def g_law : Stt → Fl :=
  (gSeq (gFor (iRangeW1 (aCons (eCallB pMax2 (aCons (eC (.int 1)) (aCons (eCallB pMin2 (aCons (eC (.int 10)) (aCons (eCallB pLen (aCons (eVar 0) aNil)) aNil))) aNil))) aNil)) (aName 1)
  (gSeq (gAsgO 2 (oCall PM.m__law_pool (avN 2 (lPv (eVar 0) (lPv (eVar 1) lNil)))))
  (gSeq (gFor (iRangeW1 (aCons (eC (.int 8)) aNil)) (aName 3)
  (gSeq (gAsg (eBin pAdd (eC (.int 1)) (eCall PM.m__law_draw_2 (avN 2 (lSl 2 (lPv (eBin pIx (frz (oLst (aCons (eC (.int 6)) (aCons (eC (.int 40)) (aCons (eC (.int 100)) aNil))))) (eCall PM.m__law_draw_2 (avN 2 (lSl 2 (lPv (eC (.int 3)) lNil))))) lNil))))) (aName 4))
  (gSeq (gAsg (frz (oComp [13] (iRangeW1 (aCons (eBin pAdd (eC (.int 1)) (eCall PM.m__law_draw_2 (avN 2 (lSl 2 (lPv (eC (.int 3)) lNil))))) aNil)) (aName 13) tYesD (eCall m__law_guard (avN 2 (lSl 2 (lPv (eVar 4) lNil)))))) (aName 5))
  (gSeq (gAsg (eMake "Kernel" PM.m_Kernel___init__ 4 [.tup []] (aCons (eVar 4) (aCons (frz (oComp [8] (iAny (eVar 5)) (aName 8) tYesD (eTup (aCons (eC (.str "put")) (aCons (eVar 8) (aCons (eC (.str "x")) (aCons (eC (.int 1)) (aCons (eC (.int 0)) (aCons (eC (.int 0)) (aCons (eC (.int 0)) aNil)))))))))) aNil))) (aName 6))
  (gSeq (gFor (iEnumQ (aCons (eVar 5) aNil)) (aTup 2 (asCons (aName 7) (asCons (aName 8) asNil)))
  (gSeq (gAsg (frz (oLst (aCons (eCall m__law_span (avN 1 (lSl 2 lNil))) (aCons (eCall m__law_span (avN 1 (lSl 2 lNil))) aNil)))) (aName 9))
  (gSeq (gFor (iAny (eBin pAdd (eVar 9) (eSl (eVar 9) pNo (pSo (eC (.int 1)))))) (aName 10)
  (gSeq (gIf (tNt (tTru (eCall m__law_right (avN 5 (lPv (eVar 6) (lPv (eVar 7) (lPv (eVar 8) (lPv (eVar 4) (lPv (eVar 10) lNil)))))))))
  (gSeq (gRet (eC (.bl false)))
  gNop)
  gNop)
  gNop))
  gNop)))
  gNop)))))
  gNop)))
  (gSeq (gAsg (eMake "Kernel" PM.m_Kernel___init__ 4 [.tup []] (aCons (eC (.int 21)) (aCons (frz (oLst (aCons (eTup (aCons (eC (.str "put")) (aCons (eTup (aCons (eC (.int 0)) (aCons (eC (.int 21)) (aCons (eC (.int 5)) (aCons (eC (.int 0)) aNil))))) (aCons (eC (.str "x")) (aCons (eC (.int 1)) (aCons (eC (.int 0)) (aCons (eC (.int 0)) (aCons (eC (.int 0)) aNil)))))))) (aCons (eTup (aCons (eC (.str "put")) (aCons (eTup (aCons (eC (.int 3)) (aCons (eC (.int 21)) (aCons (eC (.int 1)) (aCons (eC (.int 0)) aNil))))) (aCons (eC (.str "x")) (aCons (eC (.int 1)) (aCons (eC (.int 0)) (aCons (eC (.int 0)) (aCons (eC (.int 0)) aNil)))))))) aNil)))) aNil))) (aName 11))
  (gSeq (gAsg (frz (oLst (aCons (eCall PM.m_count_waves (avN 3 (lPv (eVar 11) (lPv (eC (.int 0)) (lPv (eC (.int 4)) lNil))))) (aCons (eCall PM.m_count_waves (avN 3 (lPv (eVar 11) (lPv (eC (.int 1)) (lPv (eC (.int 4)) lNil))))) (aCons (eCall PM.m_full_waves (avN 3 (lPv (eVar 11) (lPv (eC (.int 1)) (lPv (eC (.int 4)) lNil))))) (aCons (eCall PM.m_full_waves (avN 3 (lPv (eVar 11) (lPv (eC (.int 0)) (lPv (eC (.int 4)) lNil))))) aNil)))))) (aName 12))
  (gSeq (gRet (eBin pEq (eVar 12) (frz (oLst (aCons (eC (.int 5)) (aCons (eC (.int 6)) (aCons (eC (.int 5)) (aCons (eC (.int 1)) aNil))))))))
  gNop))))
noncomputable def m_law : List SV → List MO → FRes := mOf 14 g_law
/-! ### what the top has left -/
structure Txt (P : Program) (w : World) (K : PySem.W.Frag) (mg : Str → Option Value) (cl : Str → Addr) where
  a_check_barriers : Addr
  fd_check_barriers : FuncData
  F_check_barriers : Fun K "check_barriers" "check_barriers" s_check_barriers a_check_barriers fd_check_barriers
  b_check_barriers : Binds K fd_check_barriers ["barriers", "size"] []
  mg_check_barriers : mg "check_barriers" = some (.ref a_check_barriers)
  a_is_array : Addr
  fd_is_array : FuncData
  F_is_array : Fun K "is_array" "is_array" s_is_array a_is_array fd_is_array
  b_is_array : Binds K fd_is_array ["name"] []
  mg_is_array : mg "is_array" = some (.ref a_is_array)
  a_is_guard : Addr
  fd_is_guard : FuncData
  F_is_guard : Fun K "is_guard" "is_guard" s_is_guard a_is_guard fd_is_guard
  b_is_guard : Binds K fd_is_guard ["guard"] []
  mg_is_guard : mg "is_guard" = some (.ref a_is_guard)
  a_is_statement : Addr
  fd_is_statement : FuncData
  F_is_statement : Fun K "is_statement" "is_statement" s_is_statement a_is_statement fd_is_statement
  b_is_statement : Binds K fd_is_statement ["statement", "lanes"] []
  mg_is_statement : mg "is_statement" = some (.ref a_is_statement)
  a_Kernel___init__ : Addr
  fd_Kernel___init__ : FuncData
  F_Kernel___init__ : FunX K "__init__" "Kernel.__init__" s_Kernel___init__ a_Kernel___init__ fd_Kernel___init__
  bd_Kernel___init__ : ∃ u, Binds K fd_Kernel___init__ ["self", "lanes", "statements", "barriers"] [u] ∧ KvV K u (.tup [])
  a__law_draw : Addr
  fd__law_draw : FuncData
  F__law_draw : Fun K "_law_draw" "_law_draw" s__law_draw a__law_draw fd__law_draw
  b__law_draw : Binds K fd__law_draw ["pool", "many"] []
  mg__law_draw : mg "_law_draw" = some (.ref a__law_draw)
  a__law_guard : Addr
  fd__law_guard : FuncData
  F__law_guard : Fun K "_law_guard" "_law_guard" s__law_guard a__law_guard fd__law_guard
  b__law_guard : Binds K fd__law_guard ["pool", "total"] []
  mg__law_guard : mg "_law_guard" = some (.ref a__law_guard)
  a__law_pool : Addr
  fd__law_pool : FuncData
  F__law_pool : Fun K "_law_pool" "_law_pool" s__law_pool a__law_pool fd__law_pool
  b__law_pool : Binds K fd__law_pool ["script", "at"] []
  mg__law_pool : mg "_law_pool" = some (.ref a__law_pool)
  a__law_own : Addr
  fd__law_own : FuncData
  F__law_own : Fun K "_law_own" "_law_own" s__law_own a__law_own fd__law_own
  b__law_own : Binds K fd__law_own ["guard"] []
  mg__law_own : mg "_law_own" = some (.ref a__law_own)
  a__law_waves : Addr
  fd__law_waves : FuncData
  F__law_waves : Fun K "_law_waves" "_law_waves" s__law_waves a__law_waves fd__law_waves
  b__law_waves : Binds K fd__law_waves ["guard", "total", "span"] []
  mg__law_waves : mg "_law_waves" = some (.ref a__law_waves)
  a_check_statement : Addr
  fd_check_statement : FuncData
  F_check_statement : Fun K "check_statement" "check_statement" s_check_statement a_check_statement fd_check_statement
  b_check_statement : Binds K fd_check_statement ["kernel", "number"] []
  mg_check_statement : mg "check_statement" = some (.ref a_check_statement)
  a_check_wave : Addr
  fd_check_wave : FuncData
  F_check_wave : Fun K "check_wave" "check_wave" s_check_wave a_check_wave fd_check_wave
  b_check_wave : Binds K fd_check_wave ["wave"] []
  mg_check_wave : mg "check_wave" = some (.ref a_check_wave)
  a_are_lonely : Addr
  fd_are_lonely : FuncData
  F_are_lonely : Fun K "are_lonely" "are_lonely" s_are_lonely a_are_lonely fd_are_lonely
  b_are_lonely : Binds K fd_are_lonely ["guard", "wave"] []
  mg_are_lonely : mg "are_lonely" = some (.ref a_are_lonely)
  a_first_of : Addr
  fd_first_of : FuncData
  F_first_of : Fun K "first_of" "first_of" s_first_of a_first_of fd_first_of
  b_first_of : Binds K fd_first_of ["guard"] []
  mg_first_of : mg "first_of" = some (.ref a_first_of)
  a_lanes_of : Addr
  fd_lanes_of : FuncData
  F_lanes_of : Fun K "lanes_of" "lanes_of" s_lanes_of a_lanes_of fd_lanes_of
  b_lanes_of : Binds K fd_lanes_of ["guard"] []
  mg_lanes_of : mg "lanes_of" = some (.ref a_lanes_of)
  a_lane_at : Addr
  fd_lane_at : FuncData
  F_lane_at : Fun K "lane_at" "lane_at" s_lane_at a_lane_at fd_lane_at
  b_lane_at : Binds K fd_lane_at ["guard", "number"] []
  mg_lane_at : mg "lane_at" = some (.ref a_lane_at)
  a_last_of : Addr
  fd_last_of : FuncData
  F_last_of : Fun K "last_of" "last_of" s_last_of a_last_of fd_last_of
  b_last_of : Binds K fd_last_of ["guard"] []
  mg_last_of : mg "last_of" = some (.ref a_last_of)
  a_waves_with : Addr
  fd_waves_with : FuncData
  F_waves_with : Fun K "waves_with" "waves_with" s_waves_with a_waves_with fd_waves_with
  b_waves_with : Binds K fd_waves_with ["guard", "wave"] []
  mg_waves_with : mg "waves_with" = some (.ref a_waves_with)
  a_count_waves : Addr
  fd_count_waves : FuncData
  F_count_waves : Fun K "count_waves" "count_waves" s_count_waves a_count_waves fd_count_waves
  b_count_waves : Binds K fd_count_waves ["kernel", "statement", "wave"] []
  mg_count_waves : mg "count_waves" = some (.ref a_count_waves)
  a_has : Addr
  fd_has : FuncData
  F_has : Fun K "has" "has" s_has a_has fd_has
  b_has : Binds K fd_has ["guard", "lane"] []
  mg_has : mg "has" = some (.ref a_has)
  a_full_in : Addr
  fd_full_in : FuncData
  F_full_in : Fun K "full_in" "full_in" s_full_in a_full_in fd_full_in
  b_full_in : Binds K fd_full_in ["guard", "wave", "lanes"] []
  mg_full_in : mg "full_in" = some (.ref a_full_in)
  a_full_waves : Addr
  fd_full_waves : FuncData
  F_full_waves : Fun K "full_waves" "full_waves" s_full_waves a_full_waves fd_full_waves
  b_full_waves : Binds K fd_full_waves ["kernel", "statement", "wave"] []
  mg_full_waves : mg "full_waves" = some (.ref a_full_waves)
  a_wave_count : Addr
  fd_wave_count : FuncData
  F_wave_count : Fun K "wave_count" "wave_count" s_wave_count a_wave_count fd_wave_count
  b_wave_count : Binds K fd_wave_count ["kernel", "wave"] []
  mg_wave_count : mg "wave_count" = some (.ref a_wave_count)
  a_check_wave_number : Addr
  fd_check_wave_number : FuncData
  F_check_wave_number : Fun K "check_wave_number" "check_wave_number" s_check_wave_number a_check_wave_number fd_check_wave_number
  b_check_wave_number : Binds K fd_check_wave_number ["kernel", "wave", "number"] []
  mg_check_wave_number : mg "check_wave_number" = some (.ref a_check_wave_number)
  a_in_wave : Addr
  fd_in_wave : FuncData
  F_in_wave : Fun K "in_wave" "in_wave" s_in_wave a_in_wave fd_in_wave
  b_in_wave : Binds K fd_in_wave ["guard", "wave", "number"] []
  mg_in_wave : mg "in_wave" = some (.ref a_in_wave)
  a_lanes_in_wave : Addr
  fd_lanes_in_wave : FuncData
  F_lanes_in_wave : Fun K "lanes_in_wave" "lanes_in_wave" s_lanes_in_wave a_lanes_in_wave fd_lanes_in_wave
  b_lanes_in_wave : Binds K fd_lanes_in_wave ["kernel", "statement", "wave", "number"] []
  mg_lanes_in_wave : mg "lanes_in_wave" = some (.ref a_lanes_in_wave)
  a__law_right : Addr
  fd__law_right : FuncData
  F__law_right : Fun K "_law_right" "_law_right" s__law_right a__law_right fd__law_right
  b__law_right : Binds K fd__law_right ["made", "spot", "guard", "total", "span"] []
  mg__law_right : mg "_law_right" = some (.ref a__law_right)
  a__law_span : Addr
  fd__law_span : FuncData
  F__law_span : Fun K "_law_span" "_law_span" s__law_span a__law_span fd__law_span
  b__law_span : Binds K fd__law_span ["pool"] []
  mg__law_span : mg "_law_span" = some (.ref a__law_span)
  a_law : Addr
  fd_law : FuncData
  F_law : Fun K "law" "law" s_law a_law fd_law
  b_law : Binds K fd_law ["script"] []
  mg_law : mg "law" = some (.ref a_law)
  kw0 : KwB K fd_count_waves ["kernel", "statement", "wave"] 0 ["wave", "statement", "kernel"] [2, 1, 0]
  kw1 : KwB K fd_full_waves ["kernel", "statement", "wave"] 0 ["wave", "statement", "kernel"] [2, 1, 0]
  kw2 : KwB K fd_lanes_in_wave ["kernel", "statement", "wave", "number"] 0 ["number", "wave", "statement", "kernel"] [3, 2, 1, 0]
  z_abs : mg "abs" = none
  z_all : mg "all" = none
  z_enumerate : mg "enumerate" = none
  z_int : mg "int" = none
  z_len : mg "len" = none
  z_max : mg "max" = none
  z_min : mg "min" = none
  z_range : mg "range" = none
  z_tuple : mg "tuple" = none
  n_MOST_LETTERS : ∃ u, mg "MOST_LETTERS" = some u ∧ RelV (.int 8) u
  n_LETTERS : ∃ u, mg "LETTERS" = some u ∧ RelV (.str "abcdefghijklmnopqrstuvwxyz") u
  n_MOST_WAVE : ∃ u, mg "MOST_WAVE" = some u ∧ RelV (.int 32) u
  mg_Kernel : mg "Kernel" = some (.ref (cl "Kernel"))
  k_Kernel : Cls K (cl "Kernel")
  mk_Kernel : Mk K (cl "Kernel") a_Kernel___init__
  na_Kernel_lane_count : NoAttr K (cl "Kernel") "lane_count"
  na_Kernel_kept_statements : NoAttr K (cl "Kernel") "kept_statements"
  na_Kernel_kept_barriers : NoAttr K (cl "Kernel") "kept_barriers"
  d_ITEMS : DctT w K mg "ITEMS" [("put", .int 7), ("move", .int 9), ("sum", .int 11)]
  d_PLACES : DctT w K mg "PLACES" [("put", .tup [.int 2]), ("move", .tup [.int 2, .int 5]), ("sum", .tup [.int 2, .int 5, .int 8])]
section
variable {P : Program} {w : World} {K : PySem.W.Frag} {mg : Str → Option Value} {base : Heap} {cl : Str → Addr}
theorem sc_check_barriers : FnScope ["barriers", "size", "before", "number", "barrier"] ["barriers", "size"] (defScope s_check_barriers) := ⟨rfl, rfl, rfl, by decide +kernel, rfl, by decide +kernel, by decide +kernel⟩
theorem ok_check_barriers (T : Txt P w K mg cl) : FnP P w K mg base cl 1 T.a_check_barriers T.fd_check_barriers ["barriers", "size"] PM.m_check_barriers :=
  fnp (N := ["barriers", "size", "before", "number", "barrier"]) (ps := ["barriers", "size"]) (k := 0) T.F_check_barriers sc_check_barriers rfl fun cdv A outer s H E C hK hcl hr bd => by
    subst hcl
    have nd := sc_check_barriers.nd
    have hu64 := hr.units
    have hu65 : (A.deeper (envOfC "check_barriers" (defScope s_check_barriers) s.heap.objs.size T.a_check_barriers cdv)).units + 65 < cLine := by have := hr.un; omega
    exact (dss_cons (ds_set (i := 2) nd rfl (Or.inl rfl) dv_int)
      (dss_cons (ds_for bd.own bd.calm (di_enumQ hK.symm rfl T.z_enumerate (da_cons (dv_var 0) da_nil)) (dg_tup (n := 2) hK.symm bd.calm (dgs_cons (dg_name (i := 3) nd rfl (Or.inl rfl)) (dgs_cons (dg_name (i := 4) nd rfl (Or.inl rfl)) dgs_nil)))
      (dss_cons (ds_if (dt_not (dt_chain op_lt op_lt d_lt d_lt (dv_var 2) (dv_var 4) (dv_var 1)))
      (dss_cons ds_never
      dss_nil)
      dss_nil)
      (dss_cons (ds_set (i := 2) nd rfl (Or.inl rfl) (dv_var 4))
      dss_nil)))
      dss_nil))
theorem sc_is_array : FnScope ["name", "letter"] ["name"] (defScope s_is_array) := ⟨rfl, rfl, rfl, by decide +kernel, rfl, by decide +kernel, by decide +kernel⟩
theorem ok_is_array (T : Txt P w K mg cl) : FnP P w K mg base cl 1 T.a_is_array T.fd_is_array ["name"] PM.m_is_array :=
  fnp (N := ["name", "letter"]) (ps := ["name"]) (k := 0) T.F_is_array sc_is_array rfl fun cdv A outer s H E C hK hcl hr bd => by
    subst hcl
    have nd := sc_is_array.nd
    have hu64 := hr.units
    have hu65 : (A.deeper (envOfC "is_array" (defScope s_is_array) s.heap.objs.size T.a_is_array cdv)).units + 65 < cLine := by have := hr.un; omega
    exact (dss_cons (ds_ret (dv_and hK.symm (dv_chain op_le op_le d_le d_le dv_int (dv_callB call_len (c_len hK.symm) rfl T.z_len (by decide +kernel) (da_cons (dv_var 0) da_nil)) (dv_gint rfl T.n_MOST_LETTERS)) (dv_one (dv_callB (cr_all bd.calm) (c_all hK.symm) rfl T.z_all (by decide +kernel) (da_cons (dv_frz (do_lc (own := [("letter", 1)]) bd.calm nd (blkOk_by (N := ["name", "letter"]) (sc := defScope s_is_array) (by decide +kernel)) (di_txt (dv_var 0)) (fun _ _ _ _ _ => by exact (dg_name (i := 1) nd rfl (by first | exact Or.inl rfl | exact Or.inr rfl) (hv := by rfl))) (fun _ _ _ _ _ => by exact dts_nil) (fun _ _ _ _ _ => by exact (dv_cmp op_in_sign d_inSg (dv_var 1) (dv_gstr rfl T.n_LETTERS) (by rfl))))) da_nil)))))
      dss_nil)
theorem sc_is_guard : FnScope ["guard", "low", "high", "step", "rest"] ["guard"] (defScope s_is_guard) := ⟨rfl, rfl, rfl, by decide +kernel, rfl, by decide +kernel, by decide +kernel⟩
theorem ok_is_guard (T : Txt P w K mg cl) : FnP P w K mg base cl 1 T.a_is_guard T.fd_is_guard ["guard"] PM.m_is_guard :=
  fnp (N := ["guard", "low", "high", "step", "rest"]) (ps := ["guard"]) (k := 0) T.F_is_guard sc_is_guard rfl fun cdv A outer s H E C hK hcl hr bd => by
    subst hcl
    have nd := sc_is_guard.nd
    have hu64 := hr.units
    have hu65 : (A.deeper (envOfC "is_guard" (defScope s_is_guard) s.heap.objs.size T.a_is_guard cdv)).units + 65 < cLine := by have := hr.un; omega
    exact (dss_cons (ds_asg (dv_var 0) (dg_tup (n := 4) hK.symm bd.calm (dgs_cons (dg_name (i := 1) nd rfl (Or.inl rfl)) (dgs_cons (dg_name (i := 2) nd rfl (Or.inl rfl)) (dgs_cons (dg_name (i := 3) nd rfl (Or.inl rfl)) (dgs_cons (dg_name (i := 4) nd rfl (Or.inl rfl)) dgs_nil))))))
      (dss_cons (ds_ret (dv_and hK.symm (dv_chain op_le op_le d_le d_le dv_int (dv_var 1) (dv_var 2)) (dv_one (dv_chain op_le op_lt d_le d_lt dv_int (dv_var 4) (dv_var 3)))))
      dss_nil))
theorem sc_is_statement : FnScope ["statement", "lanes", "place"] ["statement", "lanes"] (defScope s_is_statement) := ⟨rfl, rfl, rfl, by decide +kernel, rfl, by decide +kernel, by decide +kernel⟩
theorem ok_is_statement (T : Txt P w K mg cl) : FnP P w K mg base cl 2 T.a_is_statement T.fd_is_statement ["statement", "lanes"] PM.m_is_statement :=
  fnp (N := ["statement", "lanes", "place"]) (ps := ["statement", "lanes"]) (k := 1) T.F_is_statement sc_is_statement rfl fun cdv A outer s H E C hK hcl hr bd => by
    subst hcl
    have nd := sc_is_statement.nd
    have hu64 := hr.units
    have hu65 : (A.deeper (envOfC "is_statement" (defScope s_is_statement) s.heap.objs.size T.a_is_statement cdv)).units + 65 < cLine := by have := hr.un; omega
    exact (dss_cons (ds_if (dt_cmp (op_neD hu64) (d_ne hK.symm) (dv_dget hK.symm T.d_ITEMS (dv_ix hK.symm (dv_var 0) dv_int (fun _ _ => rfl)) ⟨rfl, rfl, rfl, rfl⟩) (dv_callB call_len (c_len hK.symm) rfl T.z_len (by decide +kernel) (da_cons (dv_var 0) da_nil)) (by rfl))
      (dss_cons (ds_ret dv_bl)
      dss_nil)
      dss_nil)
      (dss_cons (ds_if (dt_not (dt_tru hK.symm (dv_callB (cr_all bd.calm) (c_all hK.symm) rfl T.z_all (by decide +kernel) (da_cons (dv_frz (do_lc (own := [("place", 2)]) bd.calm nd (blkOk_by (N := ["statement", "lanes", "place"]) (sc := defScope s_is_statement) (by decide +kernel)) (di_any hK.symm (dv_dct hK.symm T.d_PLACES (dv_ix hK.symm (dv_var 0) dv_int (fun _ _ => rfl)) (fun _ _ => rfl))) (fun _ _ _ _ _ => by exact (dg_name (i := 2) nd rfl (by first | exact Or.inl rfl | exact Or.inr rfl) (hv := by rfl))) (fun _ _ _ _ _ => by exact dts_nil) (fun _ _ _ _ _ => by exact (dv_call (ok_is_array T) (by exact (L2.Room.mono (j := 1) hr (by decide))) (by exact bd.gu) takes0 hK.symm T.mg_is_array T.F_is_array.kp T.b_is_array (dl_pv (dv_ix hK.symm (dv_var 0) (dv_var 2) (fun _ _ => rfl)) dl_nil))))) da_nil))))
      (dss_cons (ds_ret dv_bl)
      dss_nil)
      dss_nil)
      (dss_cons (ds_ret (dv_and hK.symm (dv_call (ok_is_guard T) (L2.Room.mono (j := 1) hr (by decide)) bd.gu bd.tk hK.symm T.mg_is_guard T.F_is_guard.kp T.b_is_guard (dl_pv (dv_ix hK.symm (dv_var 0) dv_int (fun _ _ => rfl)) dl_nil)) (dv_one (dv_cmp op_le d_le (dv_ix hK.symm (dv_ix hK.symm (dv_var 0) dv_int (fun _ _ => rfl)) dv_int (fun _ _ => rfl)) (dv_var 1) (by rfl)))))
      dss_nil)))
theorem sc_Kernel___init__ : FnScope ["self", "lanes", "statements", "barriers", "number", "statement"] ["self", "lanes", "statements", "barriers"] (defScope s_Kernel___init__) := ⟨rfl, rfl, rfl, by decide +kernel, rfl, by decide +kernel, by decide +kernel⟩
theorem ok_Kernel___init__ (T : Txt P w K mg cl) : FnP P w K mg base cl 3 T.a_Kernel___init__ T.fd_Kernel___init__ ["self", "lanes", "statements", "barriers"] PM.m_Kernel___init__ :=
  fnpX (N := ["self", "lanes", "statements", "barriers", "number", "statement"]) (ps := ["self", "lanes", "statements", "barriers"]) (k := 2) T.F_Kernel___init__ sc_Kernel___init__ rfl fun cdv A outer s H E C hK hcl hr bd => by
    subst hcl
    have nd := sc_Kernel___init__.nd
    have hu64 := hr.units
    have hu65 : (A.deeper (envOfC "Kernel.__init__" (defScope s_Kernel___init__) s.heap.objs.size T.a_Kernel___init__ cdv)).units + 65 < cLine := by have := hr.un; omega
    exact (dss_cons (ds_if (dt_cmp op_lt d_lt (dv_var 1) dv_int (by rfl))
      (dss_cons ds_never
      dss_nil)
      dss_nil)
      (dss_cons (ds_for bd.own bd.calm (di_enumQ hK.symm rfl T.z_enumerate (da_cons (dv_var 2) da_nil)) (dg_tup (n := 2) hK.symm bd.calm (dgs_cons (dg_name (i := 4) nd rfl (Or.inl rfl)) (dgs_cons (dg_name (i := 5) nd rfl (Or.inl rfl)) dgs_nil)))
      (dss_cons (ds_if (dt_not (dt_tru hK.symm (dv_call (ok_is_statement T) (L2.Room.mono (j := 2) hr (by decide)) bd.gu bd.tk hK.symm T.mg_is_statement T.F_is_statement.kp T.b_is_statement (dl_pv (dv_var 5) (dl_pv (dv_var 1) dl_nil)))))
      (dss_cons ds_never
      dss_nil)
      dss_nil)
      dss_nil))
      (dss_cons (ds_expr (dv_call (ok_check_barriers T) (L2.Room.mono (j := 1) hr (by decide)) bd.gu bd.tk hK.symm T.mg_check_barriers T.F_check_barriers.kp T.b_check_barriers (dl_pv (dv_var 3) (dl_pv (dv_callB call_len (c_len hK.symm) rfl T.z_len (by decide +kernel) (da_cons (dv_var 2) da_nil)) dl_nil))))
      (dss_cons (ds_setFld 0 "Kernel" "lane_count" (dv_var 1) T.k_Kernel T.na_Kernel_lane_count)
      (dss_cons (ds_setFld 0 "Kernel" "kept_statements" (dv_tupV hK.symm (dv_var 2) rfl T.z_tuple) T.k_Kernel T.na_Kernel_kept_statements)
      (dss_cons (ds_setFld 0 "Kernel" "kept_barriers" (dv_tupV hK.symm (dv_var 3) rfl T.z_tuple) T.k_Kernel T.na_Kernel_kept_barriers)
      dss_nil))))))
theorem sc__law_draw : FnScope ["pool", "many", "drawn", "mixed"] ["pool", "many"] (defScope s__law_draw) := ⟨rfl, rfl, rfl, by decide +kernel, rfl, by decide +kernel, by decide +kernel⟩
theorem ok__law_draw (T : Txt P w K mg cl) : FnP P w K mg base cl 1 T.a__law_draw T.fd__law_draw ["pool", "many"] PM.m__law_draw_2 :=
  fnp (N := ["pool", "many", "drawn", "mixed"]) (ps := ["pool", "many"]) (k := 0) T.F__law_draw sc__law_draw rfl fun cdv A outer s H E C hK hcl hr bd => by
    subst hcl
    have nd := sc__law_draw.nd
    have hu64 := hr.units
    have hu65 : (A.deeper (envOfC "_law_draw" (defScope s__law_draw) s.heap.objs.size T.a__law_draw cdv)).units + 65 < cLine := by have := hr.un; omega
    exact (dss_cons (ds_if (dt_cmp op_gt d_gt (dv_ixM 0 dv_int (fun _ _ => rfl)) dv_int (by rfl))
      (dss_cons (ds_set (i := 2) nd rfl (Or.inl rfl) (dv_op op_modN d_mod (dv_ixM 0 dv_int (fun _ _ => rfl)) (dv_var 1)))
      (dss_cons (ds_setIx 0 (dv_op op_fdivA d_fdiv (dv_ixM 0 dv_int (fun _ _ => rfl)) (dv_var 1)) dv_int)
      (dss_cons (ds_ret (dv_var 2))
      dss_nil)))
      dss_nil)
      (dss_cons (ds_setIx 0 (dv_op op_addA (d_add hK.symm) (dv_ixM 0 dv_int (fun _ _ => rfl)) dv_int) dv_int)
      (dss_cons (ds_set (i := 3) nd rfl (Or.inl rfl) (dv_op op_modN d_mod (dv_op op_powA d_pow (dv_op op_addA (d_add hK.symm) (dv_ixM 0 dv_int (fun _ _ => rfl)) (dv_op op_mulA d_mul dv_int (dv_ixM 0 dv_int (fun _ _ => rfl)))) dv_int) dv_int))
      (dss_cons (ds_set (i := 3) nd rfl (Or.inl rfl) (dv_op op_modN d_mod (dv_op op_powA d_pow (dv_op op_addA (d_add hK.symm) (dv_var 3) (dv_op op_mulA d_mul dv_int (dv_ixM 0 dv_int (fun _ _ => rfl)))) dv_int) dv_int))
      (dss_cons (ds_ret (dv_op op_modN d_mod (dv_op op_fdivA d_fdiv (dv_var 3) dv_int) (dv_var 1)))
      dss_nil)))))
theorem sc__law_guard : FnScope ["pool", "total", "low", "high", "by"] ["pool", "total"] (defScope s__law_guard) := ⟨rfl, rfl, rfl, by decide +kernel, rfl, by decide +kernel, by decide +kernel⟩
theorem ok__law_guard (T : Txt P w K mg cl) : FnP P w K mg base cl 2 T.a__law_guard T.fd__law_guard ["pool", "total"] m__law_guard :=
  fnp (N := ["pool", "total", "low", "high", "by"]) (ps := ["pool", "total"]) (k := 1) T.F__law_guard sc__law_guard rfl fun cdv A outer s H E C hK hcl hr bd => by
    subst hcl
    have nd := sc__law_guard.nd
    have hu64 := hr.units
    have hu65 : (A.deeper (envOfC "_law_guard" (defScope s__law_guard) s.heap.objs.size T.a__law_guard cdv)).units + 65 < cLine := by have := hr.un; omega
    exact (dss_cons (ds_set (i := 2) nd rfl (Or.inl rfl) (dv_ix hK.symm (dv_frz (do_lst (da_cons dv_int (da_cons (dv_call (ok__law_draw T) (L2.Room.mono (j := 1) hr (by decide)) bd.gu bd.tk hK.symm T.mg__law_draw T.F__law_draw.kp T.b__law_draw (dl_sl 0 (dl_pv (dv_op op_addA (d_add hK.symm) (dv_var 1) dv_int) dl_nil))) da_nil)))) (dv_call (ok__law_draw T) (L2.Room.mono (j := 1) hr (by decide)) bd.gu bd.tk hK.symm T.mg__law_draw T.F__law_draw.kp T.b__law_draw (dl_sl 0 (dl_pv dv_int dl_nil))) (fun _ _ => rfl)))
      (dss_cons (ds_set (i := 3) nd rfl (Or.inl rfl) (dv_ix hK.symm (dv_frz (do_lst (da_cons (dv_var 1) (da_cons (dv_op op_addA (d_add hK.symm) (dv_var 2) (dv_call (ok__law_draw T) (L2.Room.mono (j := 1) hr (by decide)) bd.gu bd.tk hK.symm T.mg__law_draw T.F__law_draw.kp T.b__law_draw (dl_sl 0 (dl_pv (dv_op op_addA (d_add hK.symm) (dv_op op_sub d_sub (dv_var 1) (dv_var 2)) dv_int) dl_nil)))) da_nil)))) (dv_call (ok__law_draw T) (L2.Room.mono (j := 1) hr (by decide)) bd.gu bd.tk hK.symm T.mg__law_draw T.F__law_draw.kp T.b__law_draw (dl_sl 0 (dl_pv dv_int dl_nil))) (fun _ _ => rfl)))
      (dss_cons (ds_set (i := 4) nd rfl (Or.inl rfl) (dv_ix hK.symm (dv_frz (do_lst (da_cons dv_int (da_cons dv_int (da_cons dv_int (da_cons dv_int (da_cons dv_int (da_cons dv_int (da_cons dv_int (da_cons dv_int (da_cons dv_int (da_cons (dv_op op_addA (d_add hK.symm) dv_int (dv_call (ok__law_draw T) (L2.Room.mono (j := 1) hr (by decide)) bd.gu bd.tk hK.symm T.mg__law_draw T.F__law_draw.kp T.b__law_draw (dl_sl 0 (dl_pv dv_int dl_nil)))) da_nil)))))))))))) (dv_call (ok__law_draw T) (L2.Room.mono (j := 1) hr (by decide)) bd.gu bd.tk hK.symm T.mg__law_draw T.F__law_draw.kp T.b__law_draw (dl_sl 0 (dl_pv dv_int dl_nil))) (fun _ _ => rfl)))
      (dss_cons (ds_ret (dv_tup (da_cons (dv_var 2) (da_cons (dv_var 3) (da_cons (dv_var 4) (da_cons (dv_call (ok__law_draw T) (L2.Room.mono (j := 1) hr (by decide)) bd.gu bd.tk hK.symm T.mg__law_draw T.F__law_draw.kp T.b__law_draw (dl_sl 0 (dl_pv (dv_var 4) dl_nil))) da_nil))))))
      dss_nil))))
theorem sc__law_pool : FnScope ["script", "at", "taken"] ["script", "at"] (defScope s__law_pool) := ⟨rfl, rfl, rfl, by decide +kernel, rfl, by decide +kernel, by decide +kernel⟩
theorem ok__law_pool (T : Txt P w K mg cl) : FnP P w K mg base cl 1 T.a__law_pool T.fd__law_pool ["script", "at"] PM.m__law_pool :=
  fnp (N := ["script", "at", "taken"]) (ps := ["script", "at"]) (k := 0) T.F__law_pool sc__law_pool rfl fun cdv A outer s H E C hK hcl hr bd => by
    subst hcl
    have nd := sc__law_pool.nd
    have hu64 := hr.units
    have hu65 : (A.deeper (envOfC "_law_pool" (defScope s__law_pool) s.heap.objs.size T.a__law_pool cdv)).units + 65 < cLine := by have := hr.un; omega
    exact (dss_cons (ds_set (i := 2) nd rfl (Or.inl rfl) dv_int)
      (dss_cons (ds_if (dt_cmp op_lt d_lt (dv_var 1) (dv_callB call_len (c_len hK.symm) rfl T.z_len (by decide +kernel) (da_cons (dv_var 0) da_nil)) (by rfl))
      (dss_cons (ds_set (i := 2) nd rfl (Or.inl rfl) (dv_ix hK.symm (dv_var 0) (dv_var 1) (fun _ _ => rfl)))
      dss_nil)
      dss_nil)
      (dss_cons (ds_retO (do_lst (da_cons (dv_callB (call_max2 bd.calm) c_max2 rfl T.z_max (by decide +kernel) (da_cons dv_int (da_cons (dv_op op_sub d_sub (dv_callB call_abs c_abs rfl T.z_abs (by decide +kernel) (da_cons (dv_var 2) da_nil)) (dv_op op_powA d_pow dv_int dv_int)) da_nil))) (da_cons (dv_op op_addA (d_add hK.symm) (dv_op op_modN d_mod (dv_var 2) dv_int) (dv_op op_mulA d_mul dv_int (dv_op op_addA (d_add hK.symm) (dv_var 1) dv_int))) (da_cons dv_int da_nil)))))
      dss_nil)))
theorem sc__law_own : FnScope ["guard", "low", "high", "by", "rest", "lane"] ["guard"] (defScope s__law_own) := ⟨rfl, rfl, rfl, by decide +kernel, rfl, by decide +kernel, by decide +kernel⟩
theorem ok__law_own (T : Txt P w K mg cl) : FnP P w K mg base cl 1 T.a__law_own T.fd__law_own ["guard"] m__law_own :=
  fnp (N := ["guard", "low", "high", "by", "rest", "lane"]) (ps := ["guard"]) (k := 0) T.F__law_own sc__law_own rfl fun cdv A outer s H E C hK hcl hr bd => by
    subst hcl
    have nd := sc__law_own.nd
    have hu64 := hr.units
    have hu65 : (A.deeper (envOfC "_law_own" (defScope s__law_own) s.heap.objs.size T.a__law_own cdv)).units + 65 < cLine := by have := hr.un; omega
    exact (dss_cons (ds_asg (dv_var 0) (dg_tup (n := 4) hK.symm bd.calm (dgs_cons (dg_name (i := 1) nd rfl (Or.inl rfl)) (dgs_cons (dg_name (i := 2) nd rfl (Or.inl rfl)) (dgs_cons (dg_name (i := 3) nd rfl (Or.inr rfl)) (dgs_cons (dg_name (i := 4) nd rfl (Or.inr rfl)) dgs_nil))))))
      (dss_cons (ds_ret (dv_frz (do_lc (own := [("lane", 5)]) bd.calm nd (blkOk_by (N := ["guard", "low", "high", "by", "rest", "lane"]) (sc := defScope s__law_own) (by decide +kernel)) (di_rangeW2 rfl T.z_range (da_cons (dv_var 1) (da_cons (dv_var 2) da_nil))) (fun _ _ _ _ _ => by exact (dg_name (i := 5) nd rfl (by first | exact Or.inl rfl | exact Or.inr rfl) (hv := by rfl))) (fun _ _ _ _ _ => by exact (dts_one (dt_cmp (op_eqD (by exact hu64)) (d_eq hK.symm) (dv_op op_modN d_mod (dv_var 5) (dv_var 3)) (dv_var 4) (by rfl)))) (fun _ _ _ _ _ => by exact (dv_var 5)))))
      dss_nil))
theorem sc__law_waves : FnScope ["guard", "total", "span", "found", "lane", "start"] ["guard", "total", "span"] (defScope s__law_waves) := ⟨rfl, rfl, rfl, by decide +kernel, rfl, by decide +kernel, by decide +kernel⟩
theorem ok__law_waves (T : Txt P w K mg cl) : FnP P w K mg base cl 2 T.a__law_waves T.fd__law_waves ["guard", "total", "span"] m__law_waves :=
  fnp (N := ["guard", "total", "span", "found", "lane", "start"]) (ps := ["guard", "total", "span"]) (k := 1) T.F__law_waves sc__law_waves rfl fun cdv A outer s H E C hK hcl hr bd => by
    subst hcl
    have nd := sc__law_waves.nd
    have hu64 := hr.units
    have hu65 : (A.deeper (envOfC "_law_waves" (defScope s__law_waves) s.heap.objs.size T.a__law_waves cdv)).units + 65 < cLine := by have := hr.un; omega
    exact (dss_cons (ds_lcN (i := 3) (own := [("start", 5)]) bd.calm nd rfl rfl (sw_true rfl rfl rfl (by decide +kernel)) (blkOk_by (N := ["guard", "total", "span", "found", "lane", "start"]) (sc := defScope s__law_waves) (by decide +kernel)) (di_range3 rfl T.z_range (da_cons dv_int (da_cons (dv_var 1) (da_cons (dv_var 2) da_nil)))) (fun _ _ _ _ _ => by exact (dg_name (i := 5) nd rfl (by first | exact Or.inl rfl | exact Or.inr rfl) (hv := by rfl))))
      (dss_cons (ds_for bd.own bd.calm (di_any hK.symm (dv_call (ok__law_own T) (L2.Room.mono (j := 1) hr (by decide)) bd.gu bd.tk hK.symm T.mg__law_own T.F__law_own.kp T.b__law_own (dl_pv (dv_var 0) dl_nil))) (dg_name (i := 4) nd rfl (Or.inl rfl))
      (dss_cons (ds_appN 3 4 (dv_op op_fdivA d_fdiv (dv_var 4) (dv_var 2)) (fun _ _ => rfl))
      dss_nil))
      (dss_frzL 3 (dss_cons (ds_ret (dv_var 3))
      dss_nil))))
theorem sc_check_statement : FnScope ["kernel", "number"] ["kernel", "number"] (defScope s_check_statement) := ⟨rfl, rfl, rfl, by decide +kernel, rfl, by decide +kernel, by decide +kernel⟩
theorem ok_check_statement (T : Txt P w K mg cl) : FnP P w K mg base cl 1 T.a_check_statement T.fd_check_statement ["kernel", "number"] PM.m_check_statement :=
  fnp (N := ["kernel", "number"]) (ps := ["kernel", "number"]) (k := 0) T.F_check_statement sc_check_statement rfl fun cdv A outer s H E C hK hcl hr bd => by
    subst hcl
    have nd := sc_check_statement.nd
    have hu64 := hr.units
    have hu65 : (A.deeper (envOfC "check_statement" (defScope s_check_statement) s.heap.objs.size T.a_check_statement cdv)).units + 65 < cLine := by have := hr.un; omega
    exact (dss_cons (ds_if (dt_not (dt_chain op_le op_lt d_le d_lt dv_int (dv_var 1) (dv_callB call_len (c_len hK.symm) rfl T.z_len (by decide +kernel) (da_cons (dv_fld "Kernel" "kept_statements" hK.symm (dv_var 0) T.k_Kernel T.na_Kernel_kept_statements) da_nil))))
      (dss_cons ds_never
      dss_nil)
      dss_nil)
      dss_nil)
theorem sc_check_wave : FnScope ["wave"] ["wave"] (defScope s_check_wave) := ⟨rfl, rfl, rfl, by decide +kernel, rfl, by decide +kernel, by decide +kernel⟩
theorem ok_check_wave (T : Txt P w K mg cl) : FnP P w K mg base cl 1 T.a_check_wave T.fd_check_wave ["wave"] PM.m_check_wave :=
  fnp (N := ["wave"]) (ps := ["wave"]) (k := 0) T.F_check_wave sc_check_wave rfl fun cdv A outer s H E C hK hcl hr bd => by
    subst hcl
    have nd := sc_check_wave.nd
    have hu64 := hr.units
    have hu65 : (A.deeper (envOfC "check_wave" (defScope s_check_wave) s.heap.objs.size T.a_check_wave cdv)).units + 65 < cLine := by have := hr.un; omega
    exact (dss_cons (ds_if (dt_not (dt_chain op_le op_le d_le d_le dv_int (dv_var 0) (dv_gint rfl T.n_MOST_WAVE)))
      (dss_cons ds_never
      dss_nil)
      dss_nil)
      dss_nil)
theorem sc_are_lonely : FnScope ["guard", "wave"] ["guard", "wave"] (defScope s_are_lonely) := ⟨rfl, rfl, rfl, by decide +kernel, rfl, by decide +kernel, by decide +kernel⟩
theorem ok_are_lonely (T : Txt P w K mg cl) : FnP P w K mg base cl 1 T.a_are_lonely T.fd_are_lonely ["guard", "wave"] PM.m_are_lonely :=
  fnp (N := ["guard", "wave"]) (ps := ["guard", "wave"]) (k := 0) T.F_are_lonely sc_are_lonely rfl fun cdv A outer s H E C hK hcl hr bd => by
    subst hcl
    have nd := sc_are_lonely.nd
    have hu64 := hr.units
    have hu65 : (A.deeper (envOfC "are_lonely" (defScope s_are_lonely) s.heap.objs.size T.a_are_lonely cdv)).units + 65 < cLine := by have := hr.un; omega
    exact (dss_cons (ds_ret (dv_cmp op_ge d_ge (dv_ix hK.symm (dv_var 0) dv_int (fun _ _ => rfl)) (dv_var 1) (by rfl)))
      dss_nil)
theorem sc_first_of : FnScope ["guard", "low", "high", "step", "rest"] ["guard"] (defScope s_first_of) := ⟨rfl, rfl, rfl, by decide +kernel, rfl, by decide +kernel, by decide +kernel⟩
theorem ok_first_of (T : Txt P w K mg cl) : FnP P w K mg base cl 1 T.a_first_of T.fd_first_of ["guard"] PM.m_first_of :=
  fnp (N := ["guard", "low", "high", "step", "rest"]) (ps := ["guard"]) (k := 0) T.F_first_of sc_first_of rfl fun cdv A outer s H E C hK hcl hr bd => by
    subst hcl
    have nd := sc_first_of.nd
    have hu64 := hr.units
    have hu65 : (A.deeper (envOfC "first_of" (defScope s_first_of) s.heap.objs.size T.a_first_of cdv)).units + 65 < cLine := by have := hr.un; omega
    exact (dss_cons (ds_asg (dv_var 0) (dg_tup (n := 4) hK.symm bd.calm (dgs_cons (dg_name (i := 1) nd rfl (Or.inl rfl)) (dgs_cons (dg_name (i := 2) nd rfl (Or.inl rfl)) (dgs_cons (dg_name (i := 3) nd rfl (Or.inl rfl)) (dgs_cons (dg_name (i := 4) nd rfl (Or.inl rfl)) dgs_nil))))))
      (dss_cons (ds_ret (dv_op op_addA (d_add hK.symm) (dv_var 1) (dv_op op_modN d_mod (dv_op op_sub d_sub (dv_var 4) (dv_var 1)) (dv_var 3))))
      dss_nil))
theorem sc_lanes_of : FnScope ["guard"] ["guard"] (defScope s_lanes_of) := ⟨rfl, rfl, rfl, by decide +kernel, rfl, by decide +kernel, by decide +kernel⟩
theorem ok_lanes_of (T : Txt P w K mg cl) : FnP P w K mg base cl 2 T.a_lanes_of T.fd_lanes_of ["guard"] PM.m_lanes_of :=
  fnp (N := ["guard"]) (ps := ["guard"]) (k := 1) T.F_lanes_of sc_lanes_of rfl fun cdv A outer s H E C hK hcl hr bd => by
    subst hcl
    have nd := sc_lanes_of.nd
    have hu64 := hr.units
    have hu65 : (A.deeper (envOfC "lanes_of" (defScope s_lanes_of) s.heap.objs.size T.a_lanes_of cdv)).units + 65 < cLine := by have := hr.un; omega
    exact (dss_cons (ds_ret (dv_callB (call_max2 bd.calm) c_max2 rfl T.z_max (by decide +kernel) (da_cons dv_int (da_cons (dv_op op_fdivA d_fdiv (dv_op op_sub d_sub (dv_op op_addA (d_add hK.symm) (dv_op op_sub d_sub (dv_ix hK.symm (dv_var 0) dv_int (fun _ _ => rfl)) (dv_call (ok_first_of T) (L2.Room.mono (j := 1) hr (by decide)) bd.gu bd.tk hK.symm T.mg_first_of T.F_first_of.kp T.b_first_of (dl_pv (dv_var 0) dl_nil))) (dv_ix hK.symm (dv_var 0) dv_int (fun _ _ => rfl))) dv_int) (dv_ix hK.symm (dv_var 0) dv_int (fun _ _ => rfl))) da_nil))))
      dss_nil)
theorem sc_lane_at : FnScope ["guard", "number"] ["guard", "number"] (defScope s_lane_at) := ⟨rfl, rfl, rfl, by decide +kernel, rfl, by decide +kernel, by decide +kernel⟩
theorem ok_lane_at (T : Txt P w K mg cl) : FnP P w K mg base cl 2 T.a_lane_at T.fd_lane_at ["guard", "number"] PM.m_lane_at :=
  fnp (N := ["guard", "number"]) (ps := ["guard", "number"]) (k := 1) T.F_lane_at sc_lane_at rfl fun cdv A outer s H E C hK hcl hr bd => by
    subst hcl
    have nd := sc_lane_at.nd
    have hu64 := hr.units
    have hu65 : (A.deeper (envOfC "lane_at" (defScope s_lane_at) s.heap.objs.size T.a_lane_at cdv)).units + 65 < cLine := by have := hr.un; omega
    exact (dss_cons (ds_ret (dv_op op_addA (d_add hK.symm) (dv_call (ok_first_of T) (L2.Room.mono (j := 1) hr (by decide)) bd.gu bd.tk hK.symm T.mg_first_of T.F_first_of.kp T.b_first_of (dl_pv (dv_var 0) dl_nil)) (dv_op op_mulA d_mul (dv_ix hK.symm (dv_var 0) dv_int (fun _ _ => rfl)) (dv_var 1))))
      dss_nil)
theorem sc_last_of : FnScope ["guard"] ["guard"] (defScope s_last_of) := ⟨rfl, rfl, rfl, by decide +kernel, rfl, by decide +kernel, by decide +kernel⟩
theorem ok_last_of (T : Txt P w K mg cl) : FnP P w K mg base cl 3 T.a_last_of T.fd_last_of ["guard"] PM.m_last_of :=
  fnp (N := ["guard"]) (ps := ["guard"]) (k := 2) T.F_last_of sc_last_of rfl fun cdv A outer s H E C hK hcl hr bd => by
    subst hcl
    have nd := sc_last_of.nd
    have hu64 := hr.units
    have hu65 : (A.deeper (envOfC "last_of" (defScope s_last_of) s.heap.objs.size T.a_last_of cdv)).units + 65 < cLine := by have := hr.un; omega
    exact (dss_cons (ds_ret (dv_call (ok_lane_at T) (L2.Room.mono (j := 2) hr (by decide)) bd.gu bd.tk hK.symm T.mg_lane_at T.F_lane_at.kp T.b_lane_at (dl_pv (dv_var 0) (dl_pv (dv_op op_sub d_sub (dv_call (ok_lanes_of T) (L2.Room.mono (j := 2) hr (by decide)) bd.gu bd.tk hK.symm T.mg_lanes_of T.F_lanes_of.kp T.b_lanes_of (dl_pv (dv_var 0) dl_nil)) dv_int) dl_nil))))
      dss_nil)
theorem sc_waves_with : FnScope ["guard", "wave", "many"] ["guard", "wave"] (defScope s_waves_with) := ⟨rfl, rfl, rfl, by decide +kernel, rfl, by decide +kernel, by decide +kernel⟩
theorem ok_waves_with (T : Txt P w K mg cl) : FnP P w K mg base cl 4 T.a_waves_with T.fd_waves_with ["guard", "wave"] PM.m_waves_with :=
  fnp (N := ["guard", "wave", "many"]) (ps := ["guard", "wave"]) (k := 3) T.F_waves_with sc_waves_with rfl fun cdv A outer s H E C hK hcl hr bd => by
    subst hcl
    have nd := sc_waves_with.nd
    have hu64 := hr.units
    have hu65 : (A.deeper (envOfC "waves_with" (defScope s_waves_with) s.heap.objs.size T.a_waves_with cdv)).units + 65 < cLine := by have := hr.un; omega
    exact (dss_cons (ds_set (i := 2) nd rfl (Or.inl rfl) (dv_call (ok_lanes_of T) (L2.Room.mono (j := 2) hr (by decide)) bd.gu bd.tk hK.symm T.mg_lanes_of T.F_lanes_of.kp T.b_lanes_of (dl_pv (dv_var 0) dl_nil)))
      (dss_cons (ds_if (dt_of (dw_or (dt_cmp (op_eqD hu64) (d_eq hK.symm) (dv_var 2) dv_int (by rfl)) (dw_or1 (dt_tru hK.symm (dv_call (ok_are_lonely T) (L2.Room.mono (j := 1) hr (by decide)) bd.gu bd.tk hK.symm T.mg_are_lonely T.F_are_lonely.kp T.b_are_lonely (dl_pv (dv_var 0) (dl_pv (dv_var 1) dl_nil)))))))
      (dss_cons (ds_ret (dv_var 2))
      dss_nil)
      dss_nil)
      (dss_cons (ds_ret (dv_op op_addA (d_add hK.symm) (dv_op op_sub d_sub (dv_op op_fdivA d_fdiv (dv_call (ok_last_of T) (L2.Room.mono (j := 3) hr (by decide)) bd.gu bd.tk hK.symm T.mg_last_of T.F_last_of.kp T.b_last_of (dl_pv (dv_var 0) dl_nil)) (dv_var 1)) (dv_op op_fdivA d_fdiv (dv_call (ok_first_of T) (L2.Room.mono (j := 1) hr (by decide)) bd.gu bd.tk hK.symm T.mg_first_of T.F_first_of.kp T.b_first_of (dl_pv (dv_var 0) dl_nil)) (dv_var 1))) dv_int))
      dss_nil)))
theorem sc_count_waves : FnScope ["kernel", "statement", "wave"] ["kernel", "statement", "wave"] (defScope s_count_waves) := ⟨rfl, rfl, rfl, by decide +kernel, rfl, by decide +kernel, by decide +kernel⟩
theorem ok_count_waves (T : Txt P w K mg cl) : FnP P w K mg base cl 5 T.a_count_waves T.fd_count_waves ["kernel", "statement", "wave"] PM.m_count_waves :=
  fnp (N := ["kernel", "statement", "wave"]) (ps := ["kernel", "statement", "wave"]) (k := 4) T.F_count_waves sc_count_waves rfl fun cdv A outer s H E C hK hcl hr bd => by
    subst hcl
    have nd := sc_count_waves.nd
    have hu64 := hr.units
    have hu65 : (A.deeper (envOfC "count_waves" (defScope s_count_waves) s.heap.objs.size T.a_count_waves cdv)).units + 65 < cLine := by have := hr.un; omega
    exact (dss_cons (ds_expr (dv_call (ok_check_statement T) (L2.Room.mono (j := 1) hr (by decide)) bd.gu bd.tk hK.symm T.mg_check_statement T.F_check_statement.kp T.b_check_statement (dl_pv (dv_var 0) (dl_pv (dv_var 1) dl_nil))))
      (dss_cons (ds_expr (dv_call (ok_check_wave T) (L2.Room.mono (j := 1) hr (by decide)) bd.gu bd.tk hK.symm T.mg_check_wave T.F_check_wave.kp T.b_check_wave (dl_pv (dv_var 2) dl_nil)))
      (dss_cons (ds_ret (dv_call (ok_waves_with T) (L2.Room.mono (j := 4) hr (by decide)) bd.gu bd.tk hK.symm T.mg_waves_with T.F_waves_with.kp T.b_waves_with (dl_pv (dv_ix hK.symm (dv_ix hK.symm (dv_fld "Kernel" "kept_statements" hK.symm (dv_var 0) T.k_Kernel T.na_Kernel_kept_statements) (dv_var 1) (fun _ _ => rfl)) dv_int (fun _ _ => rfl)) (dl_pv (dv_var 2) dl_nil))))
      dss_nil)))
theorem sc_has : FnScope ["guard", "lane", "low", "high", "step", "rest"] ["guard", "lane"] (defScope s_has) := ⟨rfl, rfl, rfl, by decide +kernel, rfl, by decide +kernel, by decide +kernel⟩
theorem ok_has (T : Txt P w K mg cl) : FnP P w K mg base cl 1 T.a_has T.fd_has ["guard", "lane"] PM.m_has :=
  fnp (N := ["guard", "lane", "low", "high", "step", "rest"]) (ps := ["guard", "lane"]) (k := 0) T.F_has sc_has rfl fun cdv A outer s H E C hK hcl hr bd => by
    subst hcl
    have nd := sc_has.nd
    have hu64 := hr.units
    have hu65 : (A.deeper (envOfC "has" (defScope s_has) s.heap.objs.size T.a_has cdv)).units + 65 < cLine := by have := hr.un; omega
    exact (dss_cons (ds_asg (dv_var 0) (dg_tup (n := 4) hK.symm bd.calm (dgs_cons (dg_name (i := 2) nd rfl (Or.inl rfl)) (dgs_cons (dg_name (i := 3) nd rfl (Or.inl rfl)) (dgs_cons (dg_name (i := 4) nd rfl (Or.inl rfl)) (dgs_cons (dg_name (i := 5) nd rfl (Or.inl rfl)) dgs_nil))))))
      (dss_cons (ds_ret (dv_and hK.symm (dv_chain op_le op_lt d_le d_lt (dv_var 2) (dv_var 1) (dv_var 3)) (dv_one (dv_cmp (op_eqD hu64) (d_eq hK.symm) (dv_op op_modN d_mod (dv_var 1) (dv_var 4)) (dv_var 5) (by rfl)))))
      dss_nil))
theorem sc_full_in : FnScope ["guard", "wave", "lanes", "low", "high", "step", "rest", "begin", "end"] ["guard", "wave", "lanes"] (defScope s_full_in) := ⟨rfl, rfl, rfl, by decide +kernel, rfl, by decide +kernel, by decide +kernel⟩
theorem ok_full_in (T : Txt P w K mg cl) : FnP P w K mg base cl 3 T.a_full_in T.fd_full_in ["guard", "wave", "lanes"] PM.m_full_in :=
  fnp (N := ["guard", "wave", "lanes", "low", "high", "step", "rest", "begin", "end"]) (ps := ["guard", "wave", "lanes"]) (k := 2) T.F_full_in sc_full_in rfl fun cdv A outer s H E C hK hcl hr bd => by
    subst hcl
    have nd := sc_full_in.nd
    have hu64 := hr.units
    have hu65 : (A.deeper (envOfC "full_in" (defScope s_full_in) s.heap.objs.size T.a_full_in cdv)).units + 65 < cLine := by have := hr.un; omega
    exact (dss_cons (ds_asg (dv_var 0) (dg_tup (n := 4) hK.symm bd.calm (dgs_cons (dg_name (i := 3) nd rfl (Or.inl rfl)) (dgs_cons (dg_name (i := 4) nd rfl (Or.inl rfl)) (dgs_cons (dg_name (i := 5) nd rfl (Or.inl rfl)) (dgs_cons (dg_name (i := 6) nd rfl (Or.inl rfl)) dgs_nil))))))
      (dss_cons (ds_if (dt_of (dw_and (dt_cmp op_gt d_gt (dv_var 5) dv_int (by rfl)) (dw_and1 (dt_cmp op_gt d_gt (dv_var 1) dv_int (by rfl)))))
      (dss_cons (ds_ret (dv_callTy call_int1 c_int1 rfl T.z_int (by decide +kernel) (da_cons (dv_and hK.symm (dv_cmp (op_eqD hu64) (d_eq hK.symm) (dv_op op_modN d_mod (dv_var 2) (dv_var 1)) dv_int (by rfl)) (dv_one (dv_call (ok_has T) (L2.Room.mono (j := 1) hr (by decide)) bd.gu bd.tk hK.symm T.mg_has T.F_has.kp T.b_has (dl_pv (dv_var 0) (dl_pv (dv_op op_sub d_sub (dv_var 2) dv_int) dl_nil))))) da_nil)))
      dss_nil)
      dss_nil)
      (dss_cons (ds_if (dt_cmp (op_eqD hu64) (d_eq hK.symm) (dv_var 1) dv_int (by rfl))
      (dss_cons (ds_ret (dv_call (ok_lanes_of T) (L2.Room.mono (j := 2) hr (by decide)) bd.gu bd.tk hK.symm T.mg_lanes_of T.F_lanes_of.kp T.b_lanes_of (dl_pv (dv_var 0) dl_nil)))
      dss_nil)
      dss_nil)
      (dss_cons (ds_set (i := 7) nd rfl (Or.inl rfl) (dv_op op_fdivA d_fdiv (dv_op op_sub d_sub (dv_op op_addA (d_add hK.symm) (dv_var 3) (dv_var 1)) dv_int) (dv_var 1)))
      (dss_cons (ds_set (i := 8) nd rfl (Or.inl rfl) (dv_if (dt_cmp (op_eqD hu64) (d_eq hK.symm) (dv_var 4) (dv_var 2) (by rfl)) (dv_op op_fdivA d_fdiv (dv_op op_sub d_sub (dv_op op_addA (d_add hK.symm) (dv_var 4) (dv_var 1)) dv_int) (dv_var 1)) (dv_op op_fdivA d_fdiv (dv_var 4) (dv_var 1))))
      (dss_cons (ds_ret (dv_callB (call_max2 bd.calm) c_max2 rfl T.z_max (by decide +kernel) (da_cons dv_int (da_cons (dv_op op_sub d_sub (dv_var 8) (dv_var 7)) da_nil))))
      dss_nil))))))
theorem sc_full_waves : FnScope ["kernel", "statement", "wave"] ["kernel", "statement", "wave"] (defScope s_full_waves) := ⟨rfl, rfl, rfl, by decide +kernel, rfl, by decide +kernel, by decide +kernel⟩
theorem ok_full_waves (T : Txt P w K mg cl) : FnP P w K mg base cl 4 T.a_full_waves T.fd_full_waves ["kernel", "statement", "wave"] PM.m_full_waves :=
  fnp (N := ["kernel", "statement", "wave"]) (ps := ["kernel", "statement", "wave"]) (k := 3) T.F_full_waves sc_full_waves rfl fun cdv A outer s H E C hK hcl hr bd => by
    subst hcl
    have nd := sc_full_waves.nd
    have hu64 := hr.units
    have hu65 : (A.deeper (envOfC "full_waves" (defScope s_full_waves) s.heap.objs.size T.a_full_waves cdv)).units + 65 < cLine := by have := hr.un; omega
    exact (dss_cons (ds_expr (dv_call (ok_check_statement T) (L2.Room.mono (j := 1) hr (by decide)) bd.gu bd.tk hK.symm T.mg_check_statement T.F_check_statement.kp T.b_check_statement (dl_pv (dv_var 0) (dl_pv (dv_var 1) dl_nil))))
      (dss_cons (ds_expr (dv_call (ok_check_wave T) (L2.Room.mono (j := 1) hr (by decide)) bd.gu bd.tk hK.symm T.mg_check_wave T.F_check_wave.kp T.b_check_wave (dl_pv (dv_var 2) dl_nil)))
      (dss_cons (ds_ret (dv_call (ok_full_in T) (L2.Room.mono (j := 3) hr (by decide)) bd.gu bd.tk hK.symm T.mg_full_in T.F_full_in.kp T.b_full_in (dl_pv (dv_ix hK.symm (dv_ix hK.symm (dv_fld "Kernel" "kept_statements" hK.symm (dv_var 0) T.k_Kernel T.na_Kernel_kept_statements) (dv_var 1) (fun _ _ => rfl)) dv_int (fun _ _ => rfl)) (dl_pv (dv_var 2) (dl_pv (dv_fld "Kernel" "lane_count" hK.symm (dv_var 0) T.k_Kernel T.na_Kernel_lane_count) dl_nil)))))
      dss_nil)))
theorem sc_wave_count : FnScope ["kernel", "wave"] ["kernel", "wave"] (defScope s_wave_count) := ⟨rfl, rfl, rfl, by decide +kernel, rfl, by decide +kernel, by decide +kernel⟩
theorem ok_wave_count (T : Txt P w K mg cl) : FnP P w K mg base cl 1 T.a_wave_count T.fd_wave_count ["kernel", "wave"] PM.m_wave_count :=
  fnp (N := ["kernel", "wave"]) (ps := ["kernel", "wave"]) (k := 0) T.F_wave_count sc_wave_count rfl fun cdv A outer s H E C hK hcl hr bd => by
    subst hcl
    have nd := sc_wave_count.nd
    have hu64 := hr.units
    have hu65 : (A.deeper (envOfC "wave_count" (defScope s_wave_count) s.heap.objs.size T.a_wave_count cdv)).units + 65 < cLine := by have := hr.un; omega
    exact (dss_cons (ds_ret (dv_op op_fdivA d_fdiv (dv_op op_sub d_sub (dv_op op_addA (d_add hK.symm) (dv_fld "Kernel" "lane_count" hK.symm (dv_var 0) T.k_Kernel T.na_Kernel_lane_count) (dv_var 1)) dv_int) (dv_var 1)))
      dss_nil)
theorem sc_check_wave_number : FnScope ["kernel", "wave", "number"] ["kernel", "wave", "number"] (defScope s_check_wave_number) := ⟨rfl, rfl, rfl, by decide +kernel, rfl, by decide +kernel, by decide +kernel⟩
theorem ok_check_wave_number (T : Txt P w K mg cl) : FnP P w K mg base cl 2 T.a_check_wave_number T.fd_check_wave_number ["kernel", "wave", "number"] PM.m_check_wave_number :=
  fnp (N := ["kernel", "wave", "number"]) (ps := ["kernel", "wave", "number"]) (k := 1) T.F_check_wave_number sc_check_wave_number rfl fun cdv A outer s H E C hK hcl hr bd => by
    subst hcl
    have nd := sc_check_wave_number.nd
    have hu64 := hr.units
    have hu65 : (A.deeper (envOfC "check_wave_number" (defScope s_check_wave_number) s.heap.objs.size T.a_check_wave_number cdv)).units + 65 < cLine := by have := hr.un; omega
    exact (dss_cons (ds_if (dt_not (dt_chain op_le op_lt d_le d_lt dv_int (dv_var 2) (dv_call (ok_wave_count T) (L2.Room.mono (j := 1) hr (by decide)) bd.gu bd.tk hK.symm T.mg_wave_count T.F_wave_count.kp T.b_wave_count (dl_pv (dv_var 0) (dl_pv (dv_var 1) dl_nil)))))
      (dss_cons ds_never
      dss_nil)
      dss_nil)
      dss_nil)
theorem sc_in_wave : FnScope ["guard", "wave", "number", "low", "high", "step", "rest"] ["guard", "wave", "number"] (defScope s_in_wave) := ⟨rfl, rfl, rfl, by decide +kernel, rfl, by decide +kernel, by decide +kernel⟩
theorem ok_in_wave (T : Txt P w K mg cl) : FnP P w K mg base cl 1 T.a_in_wave T.fd_in_wave ["guard", "wave", "number"] PM.m_in_wave :=
  fnp (N := ["guard", "wave", "number", "low", "high", "step", "rest"]) (ps := ["guard", "wave", "number"]) (k := 0) T.F_in_wave sc_in_wave rfl fun cdv A outer s H E C hK hcl hr bd => by
    subst hcl
    have nd := sc_in_wave.nd
    have hu64 := hr.units
    have hu65 : (A.deeper (envOfC "in_wave" (defScope s_in_wave) s.heap.objs.size T.a_in_wave cdv)).units + 65 < cLine := by have := hr.un; omega
    exact (dss_cons (ds_asg (dv_var 0) (dg_tup (n := 4) hK.symm bd.calm (dgs_cons (dg_name (i := 3) nd rfl (Or.inl rfl)) (dgs_cons (dg_name (i := 4) nd rfl (Or.inl rfl)) (dgs_cons (dg_name (i := 5) nd rfl (Or.inl rfl)) (dgs_cons (dg_name (i := 6) nd rfl (Or.inl rfl)) dgs_nil))))))
      (dss_cons (ds_ret (dv_tup (da_cons (dv_callB (call_max2 bd.calm) c_max2 rfl T.z_max (by decide +kernel) (da_cons (dv_var 3) (da_cons (dv_op op_mulA d_mul (dv_var 1) (dv_var 2)) da_nil))) (da_cons (dv_callB (call_min2 bd.calm) c_min2 rfl T.z_min (by decide +kernel) (da_cons (dv_var 4) (da_cons (dv_op op_addA (d_add hK.symm) (dv_op op_mulA d_mul (dv_var 1) (dv_var 2)) (dv_var 1)) da_nil))) (da_cons (dv_var 5) (da_cons (dv_var 6) da_nil))))))
      dss_nil))
theorem sc_lanes_in_wave : FnScope ["kernel", "statement", "wave", "number"] ["kernel", "statement", "wave", "number"] (defScope s_lanes_in_wave) := ⟨rfl, rfl, rfl, by decide +kernel, rfl, by decide +kernel, by decide +kernel⟩
theorem ok_lanes_in_wave (T : Txt P w K mg cl) : FnP P w K mg base cl 3 T.a_lanes_in_wave T.fd_lanes_in_wave ["kernel", "statement", "wave", "number"] PM.m_lanes_in_wave :=
  fnp (N := ["kernel", "statement", "wave", "number"]) (ps := ["kernel", "statement", "wave", "number"]) (k := 2) T.F_lanes_in_wave sc_lanes_in_wave rfl fun cdv A outer s H E C hK hcl hr bd => by
    subst hcl
    have nd := sc_lanes_in_wave.nd
    have hu64 := hr.units
    have hu65 : (A.deeper (envOfC "lanes_in_wave" (defScope s_lanes_in_wave) s.heap.objs.size T.a_lanes_in_wave cdv)).units + 65 < cLine := by have := hr.un; omega
    exact (dss_cons (ds_expr (dv_call (ok_check_statement T) (L2.Room.mono (j := 1) hr (by decide)) bd.gu bd.tk hK.symm T.mg_check_statement T.F_check_statement.kp T.b_check_statement (dl_pv (dv_var 0) (dl_pv (dv_var 1) dl_nil))))
      (dss_cons (ds_expr (dv_call (ok_check_wave T) (L2.Room.mono (j := 1) hr (by decide)) bd.gu bd.tk hK.symm T.mg_check_wave T.F_check_wave.kp T.b_check_wave (dl_pv (dv_var 2) dl_nil)))
      (dss_cons (ds_expr (dv_call (ok_check_wave_number T) (L2.Room.mono (j := 2) hr (by decide)) bd.gu bd.tk hK.symm T.mg_check_wave_number T.F_check_wave_number.kp T.b_check_wave_number (dl_pv (dv_var 0) (dl_pv (dv_var 2) (dl_pv (dv_var 3) dl_nil)))))
      (dss_cons (ds_ret (dv_call (ok_lanes_of T) (L2.Room.mono (j := 2) hr (by decide)) bd.gu bd.tk hK.symm T.mg_lanes_of T.F_lanes_of.kp T.b_lanes_of (dl_pv (dv_call (ok_in_wave T) (L2.Room.mono (j := 1) hr (by decide)) bd.gu bd.tk hK.symm T.mg_in_wave T.F_in_wave.kp T.b_in_wave (dl_pv (dv_ix hK.symm (dv_ix hK.symm (dv_fld "Kernel" "kept_statements" hK.symm (dv_var 0) T.k_Kernel T.na_Kernel_kept_statements) (dv_var 1) (fun _ _ => rfl)) dv_int (fun _ _ => rfl)) (dl_pv (dv_var 2) (dl_pv (dv_var 3) dl_nil)))) dl_nil)))
      dss_nil))))
theorem sc__law_right : FnScope ["made", "spot", "guard", "total", "span", "rows", "full", "due", "told", "last", "start", "row"] ["made", "spot", "guard", "total", "span"] (defScope s__law_right) := ⟨rfl, rfl, rfl, by decide +kernel, rfl, by decide +kernel, by decide +kernel⟩
theorem ok__law_right (T : Txt P w K mg cl) : FnP P w K mg base cl 6 T.a__law_right T.fd__law_right ["made", "spot", "guard", "total", "span"] m__law_right :=
  fnp (N := ["made", "spot", "guard", "total", "span", "rows", "full", "due", "told", "last", "start", "row"]) (ps := ["made", "spot", "guard", "total", "span"]) (k := 5) T.F__law_right sc__law_right rfl fun cdv A outer s H E C hK hcl hr bd => by
    subst hcl
    have nd := sc__law_right.nd
    have hu64 := hr.units
    have hu65 : (A.deeper (envOfC "_law_right" (defScope s__law_right) s.heap.objs.size T.a__law_right cdv)).units + 65 < cLine := by have := hr.un; omega
    exact (dss_cons (ds_set (i := 5) nd rfl (Or.inl rfl) (dv_call (ok__law_waves T) (L2.Room.mono (j := 2) hr (by decide)) bd.gu bd.tk hK.symm T.mg__law_waves T.F__law_waves.kp T.b__law_waves (dl_pv (dv_var 2) (dl_pv (dv_var 3) (dl_pv (dv_var 4) dl_nil)))))
      (dss_cons (ds_lcV (i := 6) (own := [("start", 10), ("row", 11)]) bd.calm nd rfl rfl (sw_true rfl rfl rfl (by decide +kernel)) (blkOk_by (N := ["made", "spot", "guard", "total", "span", "rows", "full", "due", "told", "last", "start", "row"]) (sc := defScope s__law_right) (by decide +kernel)) (di_enumQ hK.symm rfl T.z_enumerate (da_cons (dv_var 5) da_nil)) (fun _ _ _ _ _ => by exact (dg_tup (n := 2) hK.symm (by exact bd.calm) (dgs_cons (dg_name (i := 10) nd rfl (by first | exact Or.inl rfl | exact Or.inr rfl) (hv := by rfl)) (dgs_cons (dg_name (i := 11) nd rfl (by first | exact Or.inl rfl | exact Or.inr rfl) (hv := by rfl)) dgs_nil)))) (fun _ _ _ _ _ => by exact (dts_one (dt_cmp (op_eqD (by exact hu64)) (d_eq hK.symm) (dv_callB call_len (c_len hK.symm) rfl T.z_len (by decide +kernel) (da_cons (dv_var 11) da_nil)) (dv_callB (call_min2 (by exact bd.calm)) c_min2 rfl T.z_min (by decide +kernel) (da_cons (dv_var 4) (da_cons (dv_op op_sub d_sub (dv_var 3) (dv_op op_mulA d_mul (dv_var 4) (dv_var 10))) da_nil))) (by rfl)))) (fun _ _ _ _ _ => by exact (dv_var 11)))
      (dss_cons (ds_set (i := 7) nd rfl (Or.inl rfl) (dv_frz (do_lst (da_cons (dv_callB call_len (c_len hK.symm) rfl T.z_len (by decide +kernel) (da_cons (dv_frz (do_lc (own := [("row", 11)]) bd.calm nd (blkOk_by (N := ["made", "spot", "guard", "total", "span", "rows", "full", "due", "told", "last", "start", "row"]) (sc := defScope s__law_right) (by decide +kernel)) (di_any hK.symm (dv_var 5)) (fun _ _ _ _ _ => by exact (dg_name (i := 11) nd rfl (by first | exact Or.inl rfl | exact Or.inr rfl) (hv := by rfl))) (fun _ _ _ _ _ => by exact (dts_one (dt_cmp (op_neD (by exact hu64)) (d_ne hK.symm) (dv_var 11) (dv_frz (do_lst da_nil)) (by rfl)))) (fun _ _ _ _ _ => by exact (dv_var 11)))) da_nil)) (da_cons (dv_callB call_len (c_len hK.symm) rfl T.z_len (by decide +kernel) (da_cons (dv_var 6) da_nil)) da_nil)))))
      (dss_cons (ds_if (dt_cmp (op_neD hu64) (d_ne hK.symm) (dv_frz (do_lst (da_cons (dv_call (ok_count_waves T) (L2.Room.mono (j := 5) hr (by decide)) bd.gu bd.tk hK.symm T.mg_count_waves T.F_count_waves.kp T.b_count_waves (dl_pv (dv_var 0) (dl_pv (dv_var 1) (dl_pv (dv_var 4) dl_nil)))) (da_cons (dv_call (ok_full_waves T) (L2.Room.mono (j := 4) hr (by decide)) bd.gu bd.tk hK.symm T.mg_full_waves T.F_full_waves.kp T.b_full_waves (dl_pv (dv_var 0) (dl_pv (dv_var 1) (dl_pv (dv_var 4) dl_nil)))) da_nil)))) (dv_var 7) (by rfl))
      (dss_cons (ds_ret dv_bl)
      dss_nil)
      dss_nil)
      (dss_cons (ds_if (dt_cmp (op_neD hu64) (d_ne hK.symm) (dv_frz (do_lst (da_cons (dv_kw0 (ok_count_waves T) (L2.Room.mono (j := 5) hr (by decide)) bd.gu bd.tk hK.symm T.mg_count_waves T.F_count_waves.kp T.kw0 (dk_pv (dv_var 4) (dk_pv (dv_var 1) (dk_pv (dv_var 0) dk_nil)))) (da_cons (dv_kw0 (ok_full_waves T) (L2.Room.mono (j := 4) hr (by decide)) bd.gu bd.tk hK.symm T.mg_full_waves T.F_full_waves.kp T.kw1 (dk_pv (dv_var 4) (dk_pv (dv_var 1) (dk_pv (dv_var 0) dk_nil)))) da_nil)))) (dv_var 7) (by rfl))
      (dss_cons (ds_ret dv_bl)
      dss_nil)
      dss_nil)
      (dss_cons (ds_lcV (i := 8) (own := [("start", 10)]) bd.calm nd rfl rfl (sw_true rfl rfl rfl (by decide +kernel)) (blkOk_by (N := ["made", "spot", "guard", "total", "span", "rows", "full", "due", "told", "last", "start", "row"]) (sc := defScope s__law_right) (by decide +kernel)) (di_rangeW1 rfl T.z_range (da_cons (dv_callB call_len (c_len hK.symm) rfl T.z_len (by decide +kernel) (da_cons (dv_var 5) da_nil)) da_nil)) (fun _ _ _ _ _ => by exact (dg_name (i := 10) nd rfl (by first | exact Or.inl rfl | exact Or.inr rfl) (hv := by rfl))) (fun _ _ _ _ _ => by exact dts_nil) (fun _ _ _ _ _ => by exact (dv_call (ok_lanes_in_wave T) (by exact (L2.Room.mono (j := 3) hr (by decide))) (by exact bd.gu) takes0 hK.symm T.mg_lanes_in_wave T.F_lanes_in_wave.kp T.b_lanes_in_wave (dl_pv (dv_var 0) (dl_pv (dv_var 1) (dl_pv (dv_var 4) (dl_pv (dv_var 10) dl_nil)))))))
      (dss_cons (ds_set (i := 9) nd rfl (Or.inl rfl) (dv_kw0 (ok_lanes_in_wave T) (L2.Room.mono (j := 3) hr (by decide)) bd.gu bd.tk hK.symm T.mg_lanes_in_wave T.F_lanes_in_wave.kp T.kw2 (dk_pv (dv_op op_sub d_sub (dv_callB call_len (c_len hK.symm) rfl T.z_len (by decide +kernel) (da_cons (dv_var 5) da_nil)) dv_int) (dk_pv (dv_var 4) (dk_pv (dv_var 1) (dk_pv (dv_var 0) dk_nil))))))
      (dss_cons (ds_ret (dv_and hK.symm (dv_cmp (op_eqD hu64) (d_eq hK.symm) (dv_var 8) (dv_frz (do_lc (own := [("row", 11)]) bd.calm nd (blkOk_by (N := ["made", "spot", "guard", "total", "span", "rows", "full", "due", "told", "last", "start", "row"]) (sc := defScope s__law_right) (by decide +kernel)) (di_any hK.symm (dv_var 5)) (fun _ _ _ _ _ => by exact (dg_name (i := 11) nd rfl (by first | exact Or.inl rfl | exact Or.inr rfl) (hv := by rfl))) (fun _ _ _ _ _ => by exact dts_nil) (fun _ _ _ _ _ => by exact (dv_callB call_len (c_len hK.symm) rfl T.z_len (by decide +kernel) (da_cons (dv_var 11) da_nil))))) (by rfl)) (dv_one (dv_cmp (op_eqD hu64) (d_eq hK.symm) (dv_var 9) (dv_ix hK.symm (dv_var 8) (dv_un un_neg d_neg dv_int) (fun _ _ => rfl)) (by rfl)))))
      dss_nil))))))))
theorem sc__law_span : FnScope ["pool"] ["pool"] (defScope s__law_span) := ⟨rfl, rfl, rfl, by decide +kernel, rfl, by decide +kernel, by decide +kernel⟩
theorem ok__law_span (T : Txt P w K mg cl) : FnP P w K mg base cl 2 T.a__law_span T.fd__law_span ["pool"] m__law_span :=
  fnp (N := ["pool"]) (ps := ["pool"]) (k := 1) T.F__law_span sc__law_span rfl fun cdv A outer s H E C hK hcl hr bd => by
    subst hcl
    have nd := sc__law_span.nd
    have hu64 := hr.units
    have hu65 : (A.deeper (envOfC "_law_span" (defScope s__law_span) s.heap.objs.size T.a__law_span cdv)).units + 65 < cLine := by have := hr.un; omega
    exact (dss_cons (ds_ret (dv_ix hK.symm (dv_frz (do_lst (da_cons dv_int (da_cons dv_int (da_cons dv_int (da_cons dv_int (da_cons dv_int (da_cons dv_int (da_cons dv_int (da_cons dv_int (da_cons dv_int (da_cons (dv_op op_addA (d_add hK.symm) dv_int (dv_call (ok__law_draw T) (L2.Room.mono (j := 1) hr (by decide)) bd.gu bd.tk hK.symm T.mg__law_draw T.F__law_draw.kp T.b__law_draw (dl_sl 0 (dl_pv dv_int dl_nil)))) da_nil)))))))))))) (dv_call (ok__law_draw T) (L2.Room.mono (j := 1) hr (by decide)) bd.gu bd.tk hK.symm T.mg__law_draw T.F__law_draw.kp T.b__law_draw (dl_sl 0 (dl_pv dv_int dl_nil))) (fun _ _ => rfl)))
      dss_nil)
theorem sc_law : FnScope ["script", "at", "pool", "turn", "total", "guards", "made", "spot", "guard", "spans", "span", "small", "told", "lap"] ["script"] (defScope s_law) := ⟨rfl, rfl, rfl, by decide +kernel, rfl, by decide +kernel, by decide +kernel⟩
theorem ok_law (T : Txt P w K mg cl) : FnP P w K mg base cl 7 T.a_law T.fd_law ["script"] m_law :=
  fnp (N := ["script", "at", "pool", "turn", "total", "guards", "made", "spot", "guard", "spans", "span", "small", "told", "lap"]) (ps := ["script"]) (k := 6) T.F_law sc_law rfl fun cdv A outer s H E C hK hcl hr bd => by
    subst hcl
    have nd := sc_law.nd
    have hu64 := hr.units
    have hu65 : (A.deeper (envOfC "law" (defScope s_law) s.heap.objs.size T.a_law cdv)).units + 65 < cLine := by have := hr.un; omega
    exact (dss_cons (ds_for bd.own bd.calm (di_rangeW1 rfl T.z_range (da_cons (dv_callB (call_max2 bd.calm) c_max2 rfl T.z_max (by decide +kernel) (da_cons dv_int (da_cons (dv_callB (call_min2 bd.calm) c_min2 rfl T.z_min (by decide +kernel) (da_cons dv_int (da_cons (dv_callB call_len (c_len hK.symm) rfl T.z_len (by decide +kernel) (da_cons (dv_var 0) da_nil)) da_nil))) da_nil))) da_nil)) (dg_name (i := 1) nd rfl (Or.inl rfl))
      (dss_cons (ds_setO (i := 2) nd rfl (Or.inr rfl) (do_call (ok__law_pool T) (L2.Room.mono (j := 1) hr (by decide)) bd.gu bd.tk hK.symm T.mg__law_pool T.F__law_pool.kp T.b__law_pool (dl_pv (dv_var 0) (dl_pv (dv_var 1) dl_nil))))
      (dss_cons (ds_for bd.own bd.calm (di_rangeW1 rfl T.z_range (da_cons dv_int da_nil)) (dg_name (i := 3) nd rfl (Or.inl rfl))
      (dss_cons (ds_set (i := 4) nd rfl (Or.inr rfl) (dv_op op_addA (d_add hK.symm) dv_int (dv_call (ok__law_draw T) (L2.Room.mono (j := 1) hr (by decide)) bd.gu bd.tk hK.symm T.mg__law_draw T.F__law_draw.kp T.b__law_draw (dl_sl 2 (dl_pv (dv_ix hK.symm (dv_frz (do_lst (da_cons dv_int (da_cons dv_int (da_cons dv_int da_nil))))) (dv_call (ok__law_draw T) (L2.Room.mono (j := 1) hr (by decide)) bd.gu bd.tk hK.symm T.mg__law_draw T.F__law_draw.kp T.b__law_draw (dl_sl 2 (dl_pv dv_int dl_nil))) (fun _ _ => rfl)) dl_nil)))))
      (dss_cons (ds_lcV (i := 5) (own := [("lap", 13)]) bd.calm nd rfl rfl (sw_true rfl rfl rfl (by decide +kernel)) (blkOk_by (N := ["script", "at", "pool", "turn", "total", "guards", "made", "spot", "guard", "spans", "span", "small", "told", "lap"]) (sc := defScope s_law) (by decide +kernel)) (di_rangeW1 rfl T.z_range (da_cons (dv_op op_addA (d_add hK.symm) dv_int (dv_call (ok__law_draw T) (L2.Room.mono (j := 1) hr (by decide)) bd.gu bd.tk hK.symm T.mg__law_draw T.F__law_draw.kp T.b__law_draw (dl_sl 2 (dl_pv dv_int dl_nil)))) da_nil)) (fun _ _ _ _ _ => by exact (dg_name (i := 13) nd rfl (by first | exact Or.inl rfl | exact Or.inr rfl) (hv := by rfl))) (fun _ _ _ _ _ => by exact dts_nil) (fun _ _ _ _ _ => by exact (dv_call (ok__law_guard T) (by exact (L2.Room.mono (j := 2) hr (by decide))) (by exact bd.gu) takes0 hK.symm T.mg__law_guard T.F__law_guard.kp T.b__law_guard (dl_sl 2 (dl_pv (dv_var 4) dl_nil)))))
      (dss_cons (ds_set (i := 6) nd rfl (Or.inl rfl) (dv_make1 (c := "Kernel") T.mk_Kernel (ok_Kernel___init__ T) (L2.Room.mono (j := 4) hr (by decide)) bd.gu bd.tk hK.symm T.mg_Kernel T.bd_Kernel___init__ (da_cons (dv_var 4) (da_cons (dv_frz (do_lc (own := [("guard", 8)]) bd.calm nd (blkOk_by (N := ["script", "at", "pool", "turn", "total", "guards", "made", "spot", "guard", "spans", "span", "small", "told", "lap"]) (sc := defScope s_law) (by decide +kernel)) (di_any hK.symm (dv_var 5)) (fun _ _ _ _ _ => by exact (dg_name (i := 8) nd rfl (by first | exact Or.inl rfl | exact Or.inr rfl) (hv := by rfl))) (fun _ _ _ _ _ => by exact dts_nil) (fun _ _ _ _ _ => by exact (dv_tup (da_cons dv_str (da_cons (dv_var 8) (da_cons dv_str (da_cons dv_int (da_cons dv_int (da_cons dv_int (da_cons dv_int da_nil))))))))))) da_nil))))
      (dss_cons (ds_for bd.own bd.calm (di_enumQ hK.symm rfl T.z_enumerate (da_cons (dv_var 5) da_nil)) (dg_tup (n := 2) hK.symm bd.calm (dgs_cons (dg_name (i := 7) nd rfl (Or.inl rfl)) (dgs_cons (dg_name (i := 8) nd rfl (Or.inl rfl)) dgs_nil)))
      (dss_cons (ds_set (i := 9) nd rfl (Or.inl rfl) (dv_frz (do_lst (da_cons (dv_call (ok__law_span T) (L2.Room.mono (j := 2) hr (by decide)) bd.gu bd.tk hK.symm T.mg__law_span T.F__law_span.kp T.b__law_span (dl_sl 2 dl_nil)) (da_cons (dv_call (ok__law_span T) (L2.Room.mono (j := 2) hr (by decide)) bd.gu bd.tk hK.symm T.mg__law_span T.F__law_span.kp T.b__law_span (dl_sl 2 dl_nil)) da_nil)))))
      (dss_cons (ds_for bd.own bd.calm (di_any hK.symm (dv_op op_addA (d_add hK.symm) (dv_var 9) (dv_sl hK.symm (dv_var 9) dp_none (dp_some dv_int)))) (dg_name (i := 10) nd rfl (Or.inl rfl))
      (dss_cons (ds_if (dt_not (dt_tru hK.symm (dv_call (ok__law_right T) (L2.Room.mono (j := 6) hr (by decide)) bd.gu bd.tk hK.symm T.mg__law_right T.F__law_right.kp T.b__law_right (dl_pv (dv_var 6) (dl_pv (dv_var 7) (dl_pv (dv_var 8) (dl_pv (dv_var 4) (dl_pv (dv_var 10) dl_nil))))))))
      (dss_cons (ds_ret dv_bl)
      dss_nil)
      dss_nil)
      dss_nil))
      dss_nil)))
      dss_nil)))))
      dss_nil)))
      (dss_cons (ds_set (i := 11) nd rfl (Or.inl rfl) (dv_make1 (c := "Kernel") T.mk_Kernel (ok_Kernel___init__ T) (L2.Room.mono (j := 4) hr (by decide)) bd.gu bd.tk hK.symm T.mg_Kernel T.bd_Kernel___init__ (da_cons dv_int (da_cons (dv_frz (do_lst (da_cons (dv_tup (da_cons dv_str (da_cons (dv_tup (da_cons dv_int (da_cons dv_int (da_cons dv_int (da_cons dv_int da_nil))))) (da_cons dv_str (da_cons dv_int (da_cons dv_int (da_cons dv_int (da_cons dv_int da_nil)))))))) (da_cons (dv_tup (da_cons dv_str (da_cons (dv_tup (da_cons dv_int (da_cons dv_int (da_cons dv_int (da_cons dv_int da_nil))))) (da_cons dv_str (da_cons dv_int (da_cons dv_int (da_cons dv_int (da_cons dv_int da_nil)))))))) da_nil)))) da_nil))))
      (dss_cons (ds_set (i := 12) nd rfl (Or.inl rfl) (dv_frz (do_lst (da_cons (dv_call (ok_count_waves T) (L2.Room.mono (j := 5) hr (by decide)) bd.gu bd.tk hK.symm T.mg_count_waves T.F_count_waves.kp T.b_count_waves (dl_pv (dv_var 11) (dl_pv dv_int (dl_pv dv_int dl_nil)))) (da_cons (dv_call (ok_count_waves T) (L2.Room.mono (j := 5) hr (by decide)) bd.gu bd.tk hK.symm T.mg_count_waves T.F_count_waves.kp T.b_count_waves (dl_pv (dv_var 11) (dl_pv dv_int (dl_pv dv_int dl_nil)))) (da_cons (dv_call (ok_full_waves T) (L2.Room.mono (j := 4) hr (by decide)) bd.gu bd.tk hK.symm T.mg_full_waves T.F_full_waves.kp T.b_full_waves (dl_pv (dv_var 11) (dl_pv dv_int (dl_pv dv_int dl_nil)))) (da_cons (dv_call (ok_full_waves T) (L2.Room.mono (j := 4) hr (by decide)) bd.gu bd.tk hK.symm T.mg_full_waves T.F_full_waves.kp T.b_full_waves (dl_pv (dv_var 11) (dl_pv dv_int (dl_pv dv_int dl_nil)))) da_nil)))))))
      (dss_cons (ds_ret (dv_cmp (op_eqD hu64) (d_eq hK.symm) (dv_var 12) (dv_frz (do_lst (da_cons dv_int (da_cons dv_int (da_cons dv_int (da_cons dv_int da_nil)))))) (by rfl)))
      dss_nil))))
end
/-! ### the end -/
def txt_of {prog : Program} {w : World} {K : PySem.W.Frag} {h : Heap} {mg : Str → Option Value} (X : K.In h) (G : h.Ns mainGlobals mg)
    {C_Kernel : Addr} (aC_Kernel : PySem.W.nsIn K mainGlobals "Kernel" = some (some (.ref C_Kernel)))
    {f0 : Addr} {oc0 kV0 dc0 pm0 cd0 ct0 : Value} {od0 an0 : Option Addr} {sl0 : Array (Option Value)} (a0 : PySem.W.nsIn K mainGlobals "check_barriers" = some (some (.ref f0))) (l0 : K.lookup f0 = some ⟨oc0, od0, .func (PySem.W.fnOf "check_barriers" "check_barriers" (defArgs s_check_barriers) (defBody s_check_barriers) (defScope s_check_barriers) .none kV0 dc0 pm0 an0 cd0 ct0), sl0⟩) (c0 : PySem.W.codeIn K cd0 "check_barriers" = true) (k0 : PySem.W.keepIn K (.ref f0) = true)
    {f1 : Addr} {oc1 kV1 dc1 pm1 cd1 ct1 : Value} {od1 an1 : Option Addr} {sl1 : Array (Option Value)} (a1 : PySem.W.nsIn K mainGlobals "is_array" = some (some (.ref f1))) (l1 : K.lookup f1 = some ⟨oc1, od1, .func (PySem.W.fnOf "is_array" "is_array" (defArgs s_is_array) (defBody s_is_array) (defScope s_is_array) .none kV1 dc1 pm1 an1 cd1 ct1), sl1⟩) (c1 : PySem.W.codeIn K cd1 "is_array" = true) (k1 : PySem.W.keepIn K (.ref f1) = true)
    {f2 : Addr} {oc2 kV2 dc2 pm2 cd2 ct2 : Value} {od2 an2 : Option Addr} {sl2 : Array (Option Value)} (a2 : PySem.W.nsIn K mainGlobals "is_guard" = some (some (.ref f2))) (l2 : K.lookup f2 = some ⟨oc2, od2, .func (PySem.W.fnOf "is_guard" "is_guard" (defArgs s_is_guard) (defBody s_is_guard) (defScope s_is_guard) .none kV2 dc2 pm2 an2 cd2 ct2), sl2⟩) (c2 : PySem.W.codeIn K cd2 "is_guard" = true) (k2 : PySem.W.keepIn K (.ref f2) = true)
    {f3 : Addr} {oc3 kV3 dc3 pm3 cd3 ct3 : Value} {od3 an3 : Option Addr} {sl3 : Array (Option Value)} (a3 : PySem.W.nsIn K mainGlobals "is_statement" = some (some (.ref f3))) (l3 : K.lookup f3 = some ⟨oc3, od3, .func (PySem.W.fnOf "is_statement" "is_statement" (defArgs s_is_statement) (defBody s_is_statement) (defScope s_is_statement) .none kV3 dc3 pm3 an3 cd3 ct3), sl3⟩) (c3 : PySem.W.codeIn K cd3 "is_statement" = true) (k3 : PySem.W.keepIn K (.ref f3) = true)
    {f4 : Addr} {oc4 kV4 dc4 pm4 cd4 ct4 : Value} {od4 an4 : Option Addr} {sl4 : Array (Option Value)} {T4 : Addr} (a4 : PySem.W.findIn K (.ref C_Kernel) "__init__" = some (some (.ref f4))) (l4 : K.lookup f4 = some ⟨oc4, od4, .func (PySem.W.fnOf "__init__" "Kernel.__init__" (defArgs s_Kernel___init__) (defBody s_Kernel___init__) (defScope s_Kernel___init__) (.ref T4) kV4 dc4 pm4 an4 cd4 ct4), sl4⟩) (c4 : PySem.W.codeIn K cd4 "Kernel.__init__" = true) (k4 : PySem.W.keepIn K (.ref f4) = true)
    {oT4 : Value} {dT4 de4 : Option Addr} {nT4 ne4 : Nat} {sT4 se4 : Array (Option Value)} {e4 : Addr} (m4 : K.lookup T4 = some ⟨oT4, dT4, .seq #[.ref e4] nT4, sT4⟩) (o4 : K.lookup e4 = some ⟨.type "tuple", de4, .seq #[] ne4, se4⟩)
    {f5 : Addr} {oc5 kV5 dc5 pm5 cd5 ct5 : Value} {od5 an5 : Option Addr} {sl5 : Array (Option Value)} (a5 : PySem.W.nsIn K mainGlobals "_law_draw" = some (some (.ref f5))) (l5 : K.lookup f5 = some ⟨oc5, od5, .func (PySem.W.fnOf "_law_draw" "_law_draw" (defArgs s__law_draw) (defBody s__law_draw) (defScope s__law_draw) .none kV5 dc5 pm5 an5 cd5 ct5), sl5⟩) (c5 : PySem.W.codeIn K cd5 "_law_draw" = true) (k5 : PySem.W.keepIn K (.ref f5) = true)
    {f6 : Addr} {oc6 kV6 dc6 pm6 cd6 ct6 : Value} {od6 an6 : Option Addr} {sl6 : Array (Option Value)} (a6 : PySem.W.nsIn K mainGlobals "_law_guard" = some (some (.ref f6))) (l6 : K.lookup f6 = some ⟨oc6, od6, .func (PySem.W.fnOf "_law_guard" "_law_guard" (defArgs s__law_guard) (defBody s__law_guard) (defScope s__law_guard) .none kV6 dc6 pm6 an6 cd6 ct6), sl6⟩) (c6 : PySem.W.codeIn K cd6 "_law_guard" = true) (k6 : PySem.W.keepIn K (.ref f6) = true)
    {f7 : Addr} {oc7 kV7 dc7 pm7 cd7 ct7 : Value} {od7 an7 : Option Addr} {sl7 : Array (Option Value)} (a7 : PySem.W.nsIn K mainGlobals "_law_pool" = some (some (.ref f7))) (l7 : K.lookup f7 = some ⟨oc7, od7, .func (PySem.W.fnOf "_law_pool" "_law_pool" (defArgs s__law_pool) (defBody s__law_pool) (defScope s__law_pool) .none kV7 dc7 pm7 an7 cd7 ct7), sl7⟩) (c7 : PySem.W.codeIn K cd7 "_law_pool" = true) (k7 : PySem.W.keepIn K (.ref f7) = true)
    {f8 : Addr} {oc8 kV8 dc8 pm8 cd8 ct8 : Value} {od8 an8 : Option Addr} {sl8 : Array (Option Value)} (a8 : PySem.W.nsIn K mainGlobals "_law_own" = some (some (.ref f8))) (l8 : K.lookup f8 = some ⟨oc8, od8, .func (PySem.W.fnOf "_law_own" "_law_own" (defArgs s__law_own) (defBody s__law_own) (defScope s__law_own) .none kV8 dc8 pm8 an8 cd8 ct8), sl8⟩) (c8 : PySem.W.codeIn K cd8 "_law_own" = true) (k8 : PySem.W.keepIn K (.ref f8) = true)
    {f9 : Addr} {oc9 kV9 dc9 pm9 cd9 ct9 : Value} {od9 an9 : Option Addr} {sl9 : Array (Option Value)} (a9 : PySem.W.nsIn K mainGlobals "_law_waves" = some (some (.ref f9))) (l9 : K.lookup f9 = some ⟨oc9, od9, .func (PySem.W.fnOf "_law_waves" "_law_waves" (defArgs s__law_waves) (defBody s__law_waves) (defScope s__law_waves) .none kV9 dc9 pm9 an9 cd9 ct9), sl9⟩) (c9 : PySem.W.codeIn K cd9 "_law_waves" = true) (k9 : PySem.W.keepIn K (.ref f9) = true)
    {f10 : Addr} {oc10 kV10 dc10 pm10 cd10 ct10 : Value} {od10 an10 : Option Addr} {sl10 : Array (Option Value)} (a10 : PySem.W.nsIn K mainGlobals "check_statement" = some (some (.ref f10))) (l10 : K.lookup f10 = some ⟨oc10, od10, .func (PySem.W.fnOf "check_statement" "check_statement" (defArgs s_check_statement) (defBody s_check_statement) (defScope s_check_statement) .none kV10 dc10 pm10 an10 cd10 ct10), sl10⟩) (c10 : PySem.W.codeIn K cd10 "check_statement" = true) (k10 : PySem.W.keepIn K (.ref f10) = true)
    {f11 : Addr} {oc11 kV11 dc11 pm11 cd11 ct11 : Value} {od11 an11 : Option Addr} {sl11 : Array (Option Value)} (a11 : PySem.W.nsIn K mainGlobals "check_wave" = some (some (.ref f11))) (l11 : K.lookup f11 = some ⟨oc11, od11, .func (PySem.W.fnOf "check_wave" "check_wave" (defArgs s_check_wave) (defBody s_check_wave) (defScope s_check_wave) .none kV11 dc11 pm11 an11 cd11 ct11), sl11⟩) (c11 : PySem.W.codeIn K cd11 "check_wave" = true) (k11 : PySem.W.keepIn K (.ref f11) = true)
    {f12 : Addr} {oc12 kV12 dc12 pm12 cd12 ct12 : Value} {od12 an12 : Option Addr} {sl12 : Array (Option Value)} (a12 : PySem.W.nsIn K mainGlobals "are_lonely" = some (some (.ref f12))) (l12 : K.lookup f12 = some ⟨oc12, od12, .func (PySem.W.fnOf "are_lonely" "are_lonely" (defArgs s_are_lonely) (defBody s_are_lonely) (defScope s_are_lonely) .none kV12 dc12 pm12 an12 cd12 ct12), sl12⟩) (c12 : PySem.W.codeIn K cd12 "are_lonely" = true) (k12 : PySem.W.keepIn K (.ref f12) = true)
    {f13 : Addr} {oc13 kV13 dc13 pm13 cd13 ct13 : Value} {od13 an13 : Option Addr} {sl13 : Array (Option Value)} (a13 : PySem.W.nsIn K mainGlobals "first_of" = some (some (.ref f13))) (l13 : K.lookup f13 = some ⟨oc13, od13, .func (PySem.W.fnOf "first_of" "first_of" (defArgs s_first_of) (defBody s_first_of) (defScope s_first_of) .none kV13 dc13 pm13 an13 cd13 ct13), sl13⟩) (c13 : PySem.W.codeIn K cd13 "first_of" = true) (k13 : PySem.W.keepIn K (.ref f13) = true)
    {f14 : Addr} {oc14 kV14 dc14 pm14 cd14 ct14 : Value} {od14 an14 : Option Addr} {sl14 : Array (Option Value)} (a14 : PySem.W.nsIn K mainGlobals "lanes_of" = some (some (.ref f14))) (l14 : K.lookup f14 = some ⟨oc14, od14, .func (PySem.W.fnOf "lanes_of" "lanes_of" (defArgs s_lanes_of) (defBody s_lanes_of) (defScope s_lanes_of) .none kV14 dc14 pm14 an14 cd14 ct14), sl14⟩) (c14 : PySem.W.codeIn K cd14 "lanes_of" = true) (k14 : PySem.W.keepIn K (.ref f14) = true)
    {f15 : Addr} {oc15 kV15 dc15 pm15 cd15 ct15 : Value} {od15 an15 : Option Addr} {sl15 : Array (Option Value)} (a15 : PySem.W.nsIn K mainGlobals "lane_at" = some (some (.ref f15))) (l15 : K.lookup f15 = some ⟨oc15, od15, .func (PySem.W.fnOf "lane_at" "lane_at" (defArgs s_lane_at) (defBody s_lane_at) (defScope s_lane_at) .none kV15 dc15 pm15 an15 cd15 ct15), sl15⟩) (c15 : PySem.W.codeIn K cd15 "lane_at" = true) (k15 : PySem.W.keepIn K (.ref f15) = true)
    {f16 : Addr} {oc16 kV16 dc16 pm16 cd16 ct16 : Value} {od16 an16 : Option Addr} {sl16 : Array (Option Value)} (a16 : PySem.W.nsIn K mainGlobals "last_of" = some (some (.ref f16))) (l16 : K.lookup f16 = some ⟨oc16, od16, .func (PySem.W.fnOf "last_of" "last_of" (defArgs s_last_of) (defBody s_last_of) (defScope s_last_of) .none kV16 dc16 pm16 an16 cd16 ct16), sl16⟩) (c16 : PySem.W.codeIn K cd16 "last_of" = true) (k16 : PySem.W.keepIn K (.ref f16) = true)
    {f17 : Addr} {oc17 kV17 dc17 pm17 cd17 ct17 : Value} {od17 an17 : Option Addr} {sl17 : Array (Option Value)} (a17 : PySem.W.nsIn K mainGlobals "waves_with" = some (some (.ref f17))) (l17 : K.lookup f17 = some ⟨oc17, od17, .func (PySem.W.fnOf "waves_with" "waves_with" (defArgs s_waves_with) (defBody s_waves_with) (defScope s_waves_with) .none kV17 dc17 pm17 an17 cd17 ct17), sl17⟩) (c17 : PySem.W.codeIn K cd17 "waves_with" = true) (k17 : PySem.W.keepIn K (.ref f17) = true)
    {f18 : Addr} {oc18 kV18 dc18 pm18 cd18 ct18 : Value} {od18 an18 : Option Addr} {sl18 : Array (Option Value)} (a18 : PySem.W.nsIn K mainGlobals "count_waves" = some (some (.ref f18))) (l18 : K.lookup f18 = some ⟨oc18, od18, .func (PySem.W.fnOf "count_waves" "count_waves" (defArgs s_count_waves) (defBody s_count_waves) (defScope s_count_waves) .none kV18 dc18 pm18 an18 cd18 ct18), sl18⟩) (c18 : PySem.W.codeIn K cd18 "count_waves" = true) (k18 : PySem.W.keepIn K (.ref f18) = true)
    {f19 : Addr} {oc19 kV19 dc19 pm19 cd19 ct19 : Value} {od19 an19 : Option Addr} {sl19 : Array (Option Value)} (a19 : PySem.W.nsIn K mainGlobals "has" = some (some (.ref f19))) (l19 : K.lookup f19 = some ⟨oc19, od19, .func (PySem.W.fnOf "has" "has" (defArgs s_has) (defBody s_has) (defScope s_has) .none kV19 dc19 pm19 an19 cd19 ct19), sl19⟩) (c19 : PySem.W.codeIn K cd19 "has" = true) (k19 : PySem.W.keepIn K (.ref f19) = true)
    {f20 : Addr} {oc20 kV20 dc20 pm20 cd20 ct20 : Value} {od20 an20 : Option Addr} {sl20 : Array (Option Value)} (a20 : PySem.W.nsIn K mainGlobals "full_in" = some (some (.ref f20))) (l20 : K.lookup f20 = some ⟨oc20, od20, .func (PySem.W.fnOf "full_in" "full_in" (defArgs s_full_in) (defBody s_full_in) (defScope s_full_in) .none kV20 dc20 pm20 an20 cd20 ct20), sl20⟩) (c20 : PySem.W.codeIn K cd20 "full_in" = true) (k20 : PySem.W.keepIn K (.ref f20) = true)
    {f21 : Addr} {oc21 kV21 dc21 pm21 cd21 ct21 : Value} {od21 an21 : Option Addr} {sl21 : Array (Option Value)} (a21 : PySem.W.nsIn K mainGlobals "full_waves" = some (some (.ref f21))) (l21 : K.lookup f21 = some ⟨oc21, od21, .func (PySem.W.fnOf "full_waves" "full_waves" (defArgs s_full_waves) (defBody s_full_waves) (defScope s_full_waves) .none kV21 dc21 pm21 an21 cd21 ct21), sl21⟩) (c21 : PySem.W.codeIn K cd21 "full_waves" = true) (k21 : PySem.W.keepIn K (.ref f21) = true)
    {f22 : Addr} {oc22 kV22 dc22 pm22 cd22 ct22 : Value} {od22 an22 : Option Addr} {sl22 : Array (Option Value)} (a22 : PySem.W.nsIn K mainGlobals "wave_count" = some (some (.ref f22))) (l22 : K.lookup f22 = some ⟨oc22, od22, .func (PySem.W.fnOf "wave_count" "wave_count" (defArgs s_wave_count) (defBody s_wave_count) (defScope s_wave_count) .none kV22 dc22 pm22 an22 cd22 ct22), sl22⟩) (c22 : PySem.W.codeIn K cd22 "wave_count" = true) (k22 : PySem.W.keepIn K (.ref f22) = true)
    {f23 : Addr} {oc23 kV23 dc23 pm23 cd23 ct23 : Value} {od23 an23 : Option Addr} {sl23 : Array (Option Value)} (a23 : PySem.W.nsIn K mainGlobals "check_wave_number" = some (some (.ref f23))) (l23 : K.lookup f23 = some ⟨oc23, od23, .func (PySem.W.fnOf "check_wave_number" "check_wave_number" (defArgs s_check_wave_number) (defBody s_check_wave_number) (defScope s_check_wave_number) .none kV23 dc23 pm23 an23 cd23 ct23), sl23⟩) (c23 : PySem.W.codeIn K cd23 "check_wave_number" = true) (k23 : PySem.W.keepIn K (.ref f23) = true)
    {f24 : Addr} {oc24 kV24 dc24 pm24 cd24 ct24 : Value} {od24 an24 : Option Addr} {sl24 : Array (Option Value)} (a24 : PySem.W.nsIn K mainGlobals "in_wave" = some (some (.ref f24))) (l24 : K.lookup f24 = some ⟨oc24, od24, .func (PySem.W.fnOf "in_wave" "in_wave" (defArgs s_in_wave) (defBody s_in_wave) (defScope s_in_wave) .none kV24 dc24 pm24 an24 cd24 ct24), sl24⟩) (c24 : PySem.W.codeIn K cd24 "in_wave" = true) (k24 : PySem.W.keepIn K (.ref f24) = true)
    {f25 : Addr} {oc25 kV25 dc25 pm25 cd25 ct25 : Value} {od25 an25 : Option Addr} {sl25 : Array (Option Value)} (a25 : PySem.W.nsIn K mainGlobals "lanes_in_wave" = some (some (.ref f25))) (l25 : K.lookup f25 = some ⟨oc25, od25, .func (PySem.W.fnOf "lanes_in_wave" "lanes_in_wave" (defArgs s_lanes_in_wave) (defBody s_lanes_in_wave) (defScope s_lanes_in_wave) .none kV25 dc25 pm25 an25 cd25 ct25), sl25⟩) (c25 : PySem.W.codeIn K cd25 "lanes_in_wave" = true) (k25 : PySem.W.keepIn K (.ref f25) = true)
    {f26 : Addr} {oc26 kV26 dc26 pm26 cd26 ct26 : Value} {od26 an26 : Option Addr} {sl26 : Array (Option Value)} (a26 : PySem.W.nsIn K mainGlobals "_law_right" = some (some (.ref f26))) (l26 : K.lookup f26 = some ⟨oc26, od26, .func (PySem.W.fnOf "_law_right" "_law_right" (defArgs s__law_right) (defBody s__law_right) (defScope s__law_right) .none kV26 dc26 pm26 an26 cd26 ct26), sl26⟩) (c26 : PySem.W.codeIn K cd26 "_law_right" = true) (k26 : PySem.W.keepIn K (.ref f26) = true)
    {f27 : Addr} {oc27 kV27 dc27 pm27 cd27 ct27 : Value} {od27 an27 : Option Addr} {sl27 : Array (Option Value)} (a27 : PySem.W.nsIn K mainGlobals "_law_span" = some (some (.ref f27))) (l27 : K.lookup f27 = some ⟨oc27, od27, .func (PySem.W.fnOf "_law_span" "_law_span" (defArgs s__law_span) (defBody s__law_span) (defScope s__law_span) .none kV27 dc27 pm27 an27 cd27 ct27), sl27⟩) (c27 : PySem.W.codeIn K cd27 "_law_span" = true) (k27 : PySem.W.keepIn K (.ref f27) = true)
    {f28 : Addr} {oc28 kV28 dc28 pm28 cd28 ct28 : Value} {od28 an28 : Option Addr} {sl28 : Array (Option Value)} (a28 : PySem.W.nsIn K mainGlobals "law" = some (some (.ref f28))) (l28 : K.lookup f28 = some ⟨oc28, od28, .func (PySem.W.fnOf "law" "law" (defArgs s_law) (defBody s_law) (defScope s_law) .none kV28 dc28 pm28 an28 cd28 ct28), sl28⟩) (c28 : PySem.W.codeIn K cd28 "law" = true) (k28 : PySem.W.keepIn K (.ref f28) = true)
    (z_abs : PySem.W.nsIn K mainGlobals "abs" = some none)
    (z_all : PySem.W.nsIn K mainGlobals "all" = some none)
    (z_enumerate : PySem.W.nsIn K mainGlobals "enumerate" = some none)
    (z_int : PySem.W.nsIn K mainGlobals "int" = some none)
    (z_len : PySem.W.nsIn K mainGlobals "len" = some none)
    (z_max : PySem.W.nsIn K mainGlobals "max" = some none)
    (z_min : PySem.W.nsIn K mainGlobals "min" = some none)
    (z_range : PySem.W.nsIn K mainGlobals "range" = some none)
    (z_tuple : PySem.W.nsIn K mainGlobals "tuple" = some none)
    {tk_MOST_LETTERS : Tok} (n_MOST_LETTERS : PySem.W.nsIn K mainGlobals "MOST_LETTERS" = some (some (.int 8 tk_MOST_LETTERS)))
    {tk_LETTERS : Tok} (n_LETTERS : PySem.W.nsIn K mainGlobals "LETTERS" = some (some (.str "abcdefghijklmnopqrstuvwxyz" tk_LETTERS)))
    {tk_MOST_WAVE : Tok} (n_MOST_WAVE : PySem.W.nsIn K mainGlobals "MOST_WAVE" = some (some (.int 32 tk_MOST_WAVE)))
    (pg_Kernel : PySem.W.plainGet K C_Kernel Str.empty = true)
    (hd_Kernel : PySem.W.hasDictIn K C_Kernel = true)
    (po_Kernel : PySem.W.plainOver K C_Kernel = true)
    (sa_Kernel : PySem.W.findIn K (.ref C_Kernel) "__setattr__" = some (some (.builtin "object.__setattr__")))
    (mi_Kernel : PySem.W.makesIn K C_Kernel = true)
    (kc_Kernel : PySem.W.keepIn K (.ref C_Kernel) = true)
    (fi_Kernel : PySem.W.isFn K (.ref f4) = true)
    (na_Kernel_lane_count : PySem.W.findIn K (.ref C_Kernel) "lane_count" = some none)
    (na_Kernel_kept_statements : PySem.W.findIn K (.ref C_Kernel) "kept_statements" = some none)
    (na_Kernel_kept_barriers : PySem.W.findIn K (.ref C_Kernel) "kept_barriers" = some none)
    {p_ITEMS : Addr} {es_ITEMS : Array DictEntry} {n_ITEMS : Nat} (aD_ITEMS : PySem.W.nsIn K mainGlobals "ITEMS" = some (some (.ref p_ITEMS))) (lD_ITEMS : K.lookup p_ITEMS = some ⟨.type "dict", none, .dict es_ITEMS n_ITEMS, #[]⟩) (tD_ITEMS : es_ITEMS.toList.map He.keyOf = He.keysIn w.params ["put", "move", "sum"]) (wD_ITEMS : (p_ITEMS == sysModules) = false)
    {tk_ITEMS_0 : Tok} (kD_ITEMS_0 : PySem.W.nsIn K p_ITEMS "put" = some (some (.int 7 tk_ITEMS_0)))
    {tk_ITEMS_1 : Tok} (kD_ITEMS_1 : PySem.W.nsIn K p_ITEMS "move" = some (some (.int 9 tk_ITEMS_1)))
    {tk_ITEMS_2 : Tok} (kD_ITEMS_2 : PySem.W.nsIn K p_ITEMS "sum" = some (some (.int 11 tk_ITEMS_2)))
    {p_PLACES : Addr} {es_PLACES : Array DictEntry} {n_PLACES : Nat} (aD_PLACES : PySem.W.nsIn K mainGlobals "PLACES" = some (some (.ref p_PLACES))) (lD_PLACES : K.lookup p_PLACES = some ⟨.type "dict", none, .dict es_PLACES n_PLACES, #[]⟩) (tD_PLACES : es_PLACES.toList.map He.keyOf = He.keysIn w.params ["put", "move", "sum"]) (wD_PLACES : (p_PLACES == sysModules) = false)
    {r_PLACES_0 : Addr} {od_PLACES_0 : Option Addr} {it_PLACES_0 : Array Value} {nn_PLACES_0 : Nat} {sl_PLACES_0 : Array (Option Value)} (kD_PLACES_0 : PySem.W.nsIn K p_PLACES "put" = some (some (.ref r_PLACES_0))) (uD_PLACES_0 : K.lookup r_PLACES_0 = some ⟨.type "tuple", od_PLACES_0, .seq it_PLACES_0 nn_PLACES_0, sl_PLACES_0⟩) (sD_PLACES_0 : it_PLACES_0.size ≤ sizeLine) (vD_PLACES_0 : Vals (([2] : List Int).map V.int) it_PLACES_0.toList)
    {r_PLACES_1 : Addr} {od_PLACES_1 : Option Addr} {it_PLACES_1 : Array Value} {nn_PLACES_1 : Nat} {sl_PLACES_1 : Array (Option Value)} (kD_PLACES_1 : PySem.W.nsIn K p_PLACES "move" = some (some (.ref r_PLACES_1))) (uD_PLACES_1 : K.lookup r_PLACES_1 = some ⟨.type "tuple", od_PLACES_1, .seq it_PLACES_1 nn_PLACES_1, sl_PLACES_1⟩) (sD_PLACES_1 : it_PLACES_1.size ≤ sizeLine) (vD_PLACES_1 : Vals (([2, 5] : List Int).map V.int) it_PLACES_1.toList)
    {r_PLACES_2 : Addr} {od_PLACES_2 : Option Addr} {it_PLACES_2 : Array Value} {nn_PLACES_2 : Nat} {sl_PLACES_2 : Array (Option Value)} (kD_PLACES_2 : PySem.W.nsIn K p_PLACES "sum" = some (some (.ref r_PLACES_2))) (uD_PLACES_2 : K.lookup r_PLACES_2 = some ⟨.type "tuple", od_PLACES_2, .seq it_PLACES_2 nn_PLACES_2, sl_PLACES_2⟩) (sD_PLACES_2 : it_PLACES_2.size ≤ sizeLine) (vD_PLACES_2 : Vals (([2, 5, 8] : List Int).map V.int) it_PLACES_2.toList) : Txt prog w K mg (PXE.clOf K) :=
  ⟨f0, _, fun_mk (st := s_check_barriers) l0 c0 k0, (fun_mk (st := s_check_barriers) l0 c0 k0).binds (ps := ["barriers", "size"]) (fun _ _ _ _ _ _ us hl => match us, hl with | [_, _], _ => rfl), PySem.W.mg_of X G a0,
    f1, _, fun_mk (st := s_is_array) l1 c1 k1, (fun_mk (st := s_is_array) l1 c1 k1).binds (ps := ["name"]) (fun _ _ _ _ _ _ us hl => match us, hl with | [_], _ => rfl), PySem.W.mg_of X G a1,
    f2, _, fun_mk (st := s_is_guard) l2 c2 k2, (fun_mk (st := s_is_guard) l2 c2 k2).binds (ps := ["guard"]) (fun _ _ _ _ _ _ us hl => match us, hl with | [_], _ => rfl), PySem.W.mg_of X G a2,
    f3, _, fun_mk (st := s_is_statement) l3 c3 k3, (fun_mk (st := s_is_statement) l3 c3 k3).binds (ps := ["statement", "lanes"]) (fun _ _ _ _ _ _ us hl => match us, hl with | [_, _], _ => rfl), PySem.W.mg_of X G a3,
    f4, _, funX_mk (st := s_Kernel___init__) l4 c4 k4, ⟨_, binds_d1 (f := 0) (oc := .none) (od := none) (osl := #[]) (m := 3) (ps := ["self", "lanes", "statements", "barriers"]) m4 rfl (fun us hl => match us, hl with | [_, _, _], _ => ⟨_, rfl, rfl⟩), KvV.nums (ns := []) o4 rfl rfl (by decide) .nil⟩,
    f5, _, fun_mk (st := s__law_draw) l5 c5 k5, (fun_mk (st := s__law_draw) l5 c5 k5).binds (ps := ["pool", "many"]) (fun _ _ _ _ _ _ us hl => match us, hl with | [_, _], _ => rfl), PySem.W.mg_of X G a5,
    f6, _, fun_mk (st := s__law_guard) l6 c6 k6, (fun_mk (st := s__law_guard) l6 c6 k6).binds (ps := ["pool", "total"]) (fun _ _ _ _ _ _ us hl => match us, hl with | [_, _], _ => rfl), PySem.W.mg_of X G a6,
    f7, _, fun_mk (st := s__law_pool) l7 c7 k7, (fun_mk (st := s__law_pool) l7 c7 k7).binds (ps := ["script", "at"]) (fun _ _ _ _ _ _ us hl => match us, hl with | [_, _], _ => rfl), PySem.W.mg_of X G a7,
    f8, _, fun_mk (st := s__law_own) l8 c8 k8, (fun_mk (st := s__law_own) l8 c8 k8).binds (ps := ["guard"]) (fun _ _ _ _ _ _ us hl => match us, hl with | [_], _ => rfl), PySem.W.mg_of X G a8,
    f9, _, fun_mk (st := s__law_waves) l9 c9 k9, (fun_mk (st := s__law_waves) l9 c9 k9).binds (ps := ["guard", "total", "span"]) (fun _ _ _ _ _ _ us hl => match us, hl with | [_, _, _], _ => rfl), PySem.W.mg_of X G a9,
    f10, _, fun_mk (st := s_check_statement) l10 c10 k10, (fun_mk (st := s_check_statement) l10 c10 k10).binds (ps := ["kernel", "number"]) (fun _ _ _ _ _ _ us hl => match us, hl with | [_, _], _ => rfl), PySem.W.mg_of X G a10,
    f11, _, fun_mk (st := s_check_wave) l11 c11 k11, (fun_mk (st := s_check_wave) l11 c11 k11).binds (ps := ["wave"]) (fun _ _ _ _ _ _ us hl => match us, hl with | [_], _ => rfl), PySem.W.mg_of X G a11,
    f12, _, fun_mk (st := s_are_lonely) l12 c12 k12, (fun_mk (st := s_are_lonely) l12 c12 k12).binds (ps := ["guard", "wave"]) (fun _ _ _ _ _ _ us hl => match us, hl with | [_, _], _ => rfl), PySem.W.mg_of X G a12,
    f13, _, fun_mk (st := s_first_of) l13 c13 k13, (fun_mk (st := s_first_of) l13 c13 k13).binds (ps := ["guard"]) (fun _ _ _ _ _ _ us hl => match us, hl with | [_], _ => rfl), PySem.W.mg_of X G a13,
    f14, _, fun_mk (st := s_lanes_of) l14 c14 k14, (fun_mk (st := s_lanes_of) l14 c14 k14).binds (ps := ["guard"]) (fun _ _ _ _ _ _ us hl => match us, hl with | [_], _ => rfl), PySem.W.mg_of X G a14,
    f15, _, fun_mk (st := s_lane_at) l15 c15 k15, (fun_mk (st := s_lane_at) l15 c15 k15).binds (ps := ["guard", "number"]) (fun _ _ _ _ _ _ us hl => match us, hl with | [_, _], _ => rfl), PySem.W.mg_of X G a15,
    f16, _, fun_mk (st := s_last_of) l16 c16 k16, (fun_mk (st := s_last_of) l16 c16 k16).binds (ps := ["guard"]) (fun _ _ _ _ _ _ us hl => match us, hl with | [_], _ => rfl), PySem.W.mg_of X G a16,
    f17, _, fun_mk (st := s_waves_with) l17 c17 k17, (fun_mk (st := s_waves_with) l17 c17 k17).binds (ps := ["guard", "wave"]) (fun _ _ _ _ _ _ us hl => match us, hl with | [_, _], _ => rfl), PySem.W.mg_of X G a17,
    f18, _, fun_mk (st := s_count_waves) l18 c18 k18, (fun_mk (st := s_count_waves) l18 c18 k18).binds (ps := ["kernel", "statement", "wave"]) (fun _ _ _ _ _ _ us hl => match us, hl with | [_, _, _], _ => rfl), PySem.W.mg_of X G a18,
    f19, _, fun_mk (st := s_has) l19 c19 k19, (fun_mk (st := s_has) l19 c19 k19).binds (ps := ["guard", "lane"]) (fun _ _ _ _ _ _ us hl => match us, hl with | [_, _], _ => rfl), PySem.W.mg_of X G a19,
    f20, _, fun_mk (st := s_full_in) l20 c20 k20, (fun_mk (st := s_full_in) l20 c20 k20).binds (ps := ["guard", "wave", "lanes"]) (fun _ _ _ _ _ _ us hl => match us, hl with | [_, _, _], _ => rfl), PySem.W.mg_of X G a20,
    f21, _, fun_mk (st := s_full_waves) l21 c21 k21, (fun_mk (st := s_full_waves) l21 c21 k21).binds (ps := ["kernel", "statement", "wave"]) (fun _ _ _ _ _ _ us hl => match us, hl with | [_, _, _], _ => rfl), PySem.W.mg_of X G a21,
    f22, _, fun_mk (st := s_wave_count) l22 c22 k22, (fun_mk (st := s_wave_count) l22 c22 k22).binds (ps := ["kernel", "wave"]) (fun _ _ _ _ _ _ us hl => match us, hl with | [_, _], _ => rfl), PySem.W.mg_of X G a22,
    f23, _, fun_mk (st := s_check_wave_number) l23 c23 k23, (fun_mk (st := s_check_wave_number) l23 c23 k23).binds (ps := ["kernel", "wave", "number"]) (fun _ _ _ _ _ _ us hl => match us, hl with | [_, _, _], _ => rfl), PySem.W.mg_of X G a23,
    f24, _, fun_mk (st := s_in_wave) l24 c24 k24, (fun_mk (st := s_in_wave) l24 c24 k24).binds (ps := ["guard", "wave", "number"]) (fun _ _ _ _ _ _ us hl => match us, hl with | [_, _, _], _ => rfl), PySem.W.mg_of X G a24,
    f25, _, fun_mk (st := s_lanes_in_wave) l25 c25 k25, (fun_mk (st := s_lanes_in_wave) l25 c25 k25).binds (ps := ["kernel", "statement", "wave", "number"]) (fun _ _ _ _ _ _ us hl => match us, hl with | [_, _, _, _], _ => rfl), PySem.W.mg_of X G a25,
    f26, _, fun_mk (st := s__law_right) l26 c26 k26, (fun_mk (st := s__law_right) l26 c26 k26).binds (ps := ["made", "spot", "guard", "total", "span"]) (fun _ _ _ _ _ _ us hl => match us, hl with | [_, _, _, _, _], _ => rfl), PySem.W.mg_of X G a26,
    f27, _, fun_mk (st := s__law_span) l27 c27 k27, (fun_mk (st := s__law_span) l27 c27 k27).binds (ps := ["pool"]) (fun _ _ _ _ _ _ us hl => match us, hl with | [_], _ => rfl), PySem.W.mg_of X G a27,
    f28, _, fun_mk (st := s_law) l28 c28 k28, (fun_mk (st := s_law) l28 c28 k28).binds (ps := ["script"]) (fun _ _ _ _ _ _ us hl => match us, hl with | [_], _ => rfl), PySem.W.mg_of X G a28,
    (fun s us ws X h1 h2 => match us, ws, h1, h2 with | [], [_, _, _], _, _ => .of_eq rfl),
    (fun s us ws X h1 h2 => match us, ws, h1, h2 with | [], [_, _, _], _, _ => .of_eq rfl),
    (fun s us ws X h1 h2 => match us, ws, h1, h2 with | [], [_, _, _, _], _, _ => .of_eq rfl),
    PySem.W.mg_none_of X G z_abs,
    PySem.W.mg_none_of X G z_all,
    PySem.W.mg_none_of X G z_enumerate,
    PySem.W.mg_none_of X G z_int,
    PySem.W.mg_none_of X G z_len,
    PySem.W.mg_none_of X G z_max,
    PySem.W.mg_none_of X G z_min,
    PySem.W.mg_none_of X G z_range,
    PySem.W.mg_none_of X G z_tuple,
    ⟨_, PySem.W.mg_of X G n_MOST_LETTERS, ⟨_, rfl⟩⟩,
    ⟨_, PySem.W.mg_of X G n_LETTERS, ⟨_, rfl⟩⟩,
    ⟨_, PySem.W.mg_of X G n_MOST_WAVE, ⟨_, rfl⟩⟩,
    (by rw [PXE.clOf_at aC_Kernel]; exact PySem.W.mg_of X G aC_Kernel),
    (by rw [PXE.clOf_at aC_Kernel]; exact ⟨pg_Kernel, hd_Kernel, po_Kernel, sa_Kernel⟩),
    (by rw [PXE.clOf_at aC_Kernel]; exact ⟨mi_Kernel, a4, fi_Kernel, kc_Kernel⟩),
    (by rw [PXE.clOf_at aC_Kernel]; exact na_Kernel_lane_count),
    (by rw [PXE.clOf_at aC_Kernel]; exact na_Kernel_kept_statements),
    (by rw [PXE.clOf_at aC_Kernel]; exact na_Kernel_kept_barriers),
    dct_mk (PySem.W.mg_of X G aD_ITEMS) lD_ITEMS tD_ITEMS wD_ITEMS (.cons kD_ITEMS_0 (.int _ _) (.cons kD_ITEMS_1 (.int _ _) (.cons kD_ITEMS_2 (.int _ _) .nil))),
    dct_mk (PySem.W.mg_of X G aD_PLACES) lD_PLACES tD_PLACES wD_PLACES (.cons kD_PLACES_0 (KvV.nums (ns := [2]) uD_PLACES_0 rfl rfl sD_PLACES_0 vD_PLACES_0) (.cons kD_PLACES_1 (KvV.nums (ns := [2, 5]) uD_PLACES_1 rfl rfl sD_PLACES_1 vD_PLACES_1) (.cons kD_PLACES_2 (KvV.nums (ns := [2, 5, 8]) uD_PLACES_2 rfl rfl sD_PLACES_2 vD_PLACES_2) .nil)))⟩
theorem all_mk {l : PySem.W.OpenLaw} {w : World} {K : PySem.W.Frag} {h : Heap} {mg : Str → Option Value} {fa : Addr} (X : K.In h) (G : h.Ns mainGlobals mg) (hfa : mg "law" = some (.ref fa))
    {C_Kernel : Addr} (aC_Kernel : PySem.W.nsIn K mainGlobals "Kernel" = some (some (.ref C_Kernel)))
    {f0 : Addr} {oc0 kV0 dc0 pm0 cd0 ct0 : Value} {od0 an0 : Option Addr} {sl0 : Array (Option Value)} (a0 : PySem.W.nsIn K mainGlobals "check_barriers" = some (some (.ref f0))) (l0 : K.lookup f0 = some ⟨oc0, od0, .func (PySem.W.fnOf "check_barriers" "check_barriers" (defArgs s_check_barriers) (defBody s_check_barriers) (defScope s_check_barriers) .none kV0 dc0 pm0 an0 cd0 ct0), sl0⟩) (c0 : PySem.W.codeIn K cd0 "check_barriers" = true) (k0 : PySem.W.keepIn K (.ref f0) = true)
    {f1 : Addr} {oc1 kV1 dc1 pm1 cd1 ct1 : Value} {od1 an1 : Option Addr} {sl1 : Array (Option Value)} (a1 : PySem.W.nsIn K mainGlobals "is_array" = some (some (.ref f1))) (l1 : K.lookup f1 = some ⟨oc1, od1, .func (PySem.W.fnOf "is_array" "is_array" (defArgs s_is_array) (defBody s_is_array) (defScope s_is_array) .none kV1 dc1 pm1 an1 cd1 ct1), sl1⟩) (c1 : PySem.W.codeIn K cd1 "is_array" = true) (k1 : PySem.W.keepIn K (.ref f1) = true)
    {f2 : Addr} {oc2 kV2 dc2 pm2 cd2 ct2 : Value} {od2 an2 : Option Addr} {sl2 : Array (Option Value)} (a2 : PySem.W.nsIn K mainGlobals "is_guard" = some (some (.ref f2))) (l2 : K.lookup f2 = some ⟨oc2, od2, .func (PySem.W.fnOf "is_guard" "is_guard" (defArgs s_is_guard) (defBody s_is_guard) (defScope s_is_guard) .none kV2 dc2 pm2 an2 cd2 ct2), sl2⟩) (c2 : PySem.W.codeIn K cd2 "is_guard" = true) (k2 : PySem.W.keepIn K (.ref f2) = true)
    {f3 : Addr} {oc3 kV3 dc3 pm3 cd3 ct3 : Value} {od3 an3 : Option Addr} {sl3 : Array (Option Value)} (a3 : PySem.W.nsIn K mainGlobals "is_statement" = some (some (.ref f3))) (l3 : K.lookup f3 = some ⟨oc3, od3, .func (PySem.W.fnOf "is_statement" "is_statement" (defArgs s_is_statement) (defBody s_is_statement) (defScope s_is_statement) .none kV3 dc3 pm3 an3 cd3 ct3), sl3⟩) (c3 : PySem.W.codeIn K cd3 "is_statement" = true) (k3 : PySem.W.keepIn K (.ref f3) = true)
    {f4 : Addr} {oc4 kV4 dc4 pm4 cd4 ct4 : Value} {od4 an4 : Option Addr} {sl4 : Array (Option Value)} {T4 : Addr} (a4 : PySem.W.findIn K (.ref C_Kernel) "__init__" = some (some (.ref f4))) (l4 : K.lookup f4 = some ⟨oc4, od4, .func (PySem.W.fnOf "__init__" "Kernel.__init__" (defArgs s_Kernel___init__) (defBody s_Kernel___init__) (defScope s_Kernel___init__) (.ref T4) kV4 dc4 pm4 an4 cd4 ct4), sl4⟩) (c4 : PySem.W.codeIn K cd4 "Kernel.__init__" = true) (k4 : PySem.W.keepIn K (.ref f4) = true)
    {oT4 : Value} {dT4 de4 : Option Addr} {nT4 ne4 : Nat} {sT4 se4 : Array (Option Value)} {e4 : Addr} (m4 : K.lookup T4 = some ⟨oT4, dT4, .seq #[.ref e4] nT4, sT4⟩) (o4 : K.lookup e4 = some ⟨.type "tuple", de4, .seq #[] ne4, se4⟩)
    {f5 : Addr} {oc5 kV5 dc5 pm5 cd5 ct5 : Value} {od5 an5 : Option Addr} {sl5 : Array (Option Value)} (a5 : PySem.W.nsIn K mainGlobals "_law_draw" = some (some (.ref f5))) (l5 : K.lookup f5 = some ⟨oc5, od5, .func (PySem.W.fnOf "_law_draw" "_law_draw" (defArgs s__law_draw) (defBody s__law_draw) (defScope s__law_draw) .none kV5 dc5 pm5 an5 cd5 ct5), sl5⟩) (c5 : PySem.W.codeIn K cd5 "_law_draw" = true) (k5 : PySem.W.keepIn K (.ref f5) = true)
    {f6 : Addr} {oc6 kV6 dc6 pm6 cd6 ct6 : Value} {od6 an6 : Option Addr} {sl6 : Array (Option Value)} (a6 : PySem.W.nsIn K mainGlobals "_law_guard" = some (some (.ref f6))) (l6 : K.lookup f6 = some ⟨oc6, od6, .func (PySem.W.fnOf "_law_guard" "_law_guard" (defArgs s__law_guard) (defBody s__law_guard) (defScope s__law_guard) .none kV6 dc6 pm6 an6 cd6 ct6), sl6⟩) (c6 : PySem.W.codeIn K cd6 "_law_guard" = true) (k6 : PySem.W.keepIn K (.ref f6) = true)
    {f7 : Addr} {oc7 kV7 dc7 pm7 cd7 ct7 : Value} {od7 an7 : Option Addr} {sl7 : Array (Option Value)} (a7 : PySem.W.nsIn K mainGlobals "_law_pool" = some (some (.ref f7))) (l7 : K.lookup f7 = some ⟨oc7, od7, .func (PySem.W.fnOf "_law_pool" "_law_pool" (defArgs s__law_pool) (defBody s__law_pool) (defScope s__law_pool) .none kV7 dc7 pm7 an7 cd7 ct7), sl7⟩) (c7 : PySem.W.codeIn K cd7 "_law_pool" = true) (k7 : PySem.W.keepIn K (.ref f7) = true)
    {f8 : Addr} {oc8 kV8 dc8 pm8 cd8 ct8 : Value} {od8 an8 : Option Addr} {sl8 : Array (Option Value)} (a8 : PySem.W.nsIn K mainGlobals "_law_own" = some (some (.ref f8))) (l8 : K.lookup f8 = some ⟨oc8, od8, .func (PySem.W.fnOf "_law_own" "_law_own" (defArgs s__law_own) (defBody s__law_own) (defScope s__law_own) .none kV8 dc8 pm8 an8 cd8 ct8), sl8⟩) (c8 : PySem.W.codeIn K cd8 "_law_own" = true) (k8 : PySem.W.keepIn K (.ref f8) = true)
    {f9 : Addr} {oc9 kV9 dc9 pm9 cd9 ct9 : Value} {od9 an9 : Option Addr} {sl9 : Array (Option Value)} (a9 : PySem.W.nsIn K mainGlobals "_law_waves" = some (some (.ref f9))) (l9 : K.lookup f9 = some ⟨oc9, od9, .func (PySem.W.fnOf "_law_waves" "_law_waves" (defArgs s__law_waves) (defBody s__law_waves) (defScope s__law_waves) .none kV9 dc9 pm9 an9 cd9 ct9), sl9⟩) (c9 : PySem.W.codeIn K cd9 "_law_waves" = true) (k9 : PySem.W.keepIn K (.ref f9) = true)
    {f10 : Addr} {oc10 kV10 dc10 pm10 cd10 ct10 : Value} {od10 an10 : Option Addr} {sl10 : Array (Option Value)} (a10 : PySem.W.nsIn K mainGlobals "check_statement" = some (some (.ref f10))) (l10 : K.lookup f10 = some ⟨oc10, od10, .func (PySem.W.fnOf "check_statement" "check_statement" (defArgs s_check_statement) (defBody s_check_statement) (defScope s_check_statement) .none kV10 dc10 pm10 an10 cd10 ct10), sl10⟩) (c10 : PySem.W.codeIn K cd10 "check_statement" = true) (k10 : PySem.W.keepIn K (.ref f10) = true)
    {f11 : Addr} {oc11 kV11 dc11 pm11 cd11 ct11 : Value} {od11 an11 : Option Addr} {sl11 : Array (Option Value)} (a11 : PySem.W.nsIn K mainGlobals "check_wave" = some (some (.ref f11))) (l11 : K.lookup f11 = some ⟨oc11, od11, .func (PySem.W.fnOf "check_wave" "check_wave" (defArgs s_check_wave) (defBody s_check_wave) (defScope s_check_wave) .none kV11 dc11 pm11 an11 cd11 ct11), sl11⟩) (c11 : PySem.W.codeIn K cd11 "check_wave" = true) (k11 : PySem.W.keepIn K (.ref f11) = true)
    {f12 : Addr} {oc12 kV12 dc12 pm12 cd12 ct12 : Value} {od12 an12 : Option Addr} {sl12 : Array (Option Value)} (a12 : PySem.W.nsIn K mainGlobals "are_lonely" = some (some (.ref f12))) (l12 : K.lookup f12 = some ⟨oc12, od12, .func (PySem.W.fnOf "are_lonely" "are_lonely" (defArgs s_are_lonely) (defBody s_are_lonely) (defScope s_are_lonely) .none kV12 dc12 pm12 an12 cd12 ct12), sl12⟩) (c12 : PySem.W.codeIn K cd12 "are_lonely" = true) (k12 : PySem.W.keepIn K (.ref f12) = true)
    {f13 : Addr} {oc13 kV13 dc13 pm13 cd13 ct13 : Value} {od13 an13 : Option Addr} {sl13 : Array (Option Value)} (a13 : PySem.W.nsIn K mainGlobals "first_of" = some (some (.ref f13))) (l13 : K.lookup f13 = some ⟨oc13, od13, .func (PySem.W.fnOf "first_of" "first_of" (defArgs s_first_of) (defBody s_first_of) (defScope s_first_of) .none kV13 dc13 pm13 an13 cd13 ct13), sl13⟩) (c13 : PySem.W.codeIn K cd13 "first_of" = true) (k13 : PySem.W.keepIn K (.ref f13) = true)
    {f14 : Addr} {oc14 kV14 dc14 pm14 cd14 ct14 : Value} {od14 an14 : Option Addr} {sl14 : Array (Option Value)} (a14 : PySem.W.nsIn K mainGlobals "lanes_of" = some (some (.ref f14))) (l14 : K.lookup f14 = some ⟨oc14, od14, .func (PySem.W.fnOf "lanes_of" "lanes_of" (defArgs s_lanes_of) (defBody s_lanes_of) (defScope s_lanes_of) .none kV14 dc14 pm14 an14 cd14 ct14), sl14⟩) (c14 : PySem.W.codeIn K cd14 "lanes_of" = true) (k14 : PySem.W.keepIn K (.ref f14) = true)
    {f15 : Addr} {oc15 kV15 dc15 pm15 cd15 ct15 : Value} {od15 an15 : Option Addr} {sl15 : Array (Option Value)} (a15 : PySem.W.nsIn K mainGlobals "lane_at" = some (some (.ref f15))) (l15 : K.lookup f15 = some ⟨oc15, od15, .func (PySem.W.fnOf "lane_at" "lane_at" (defArgs s_lane_at) (defBody s_lane_at) (defScope s_lane_at) .none kV15 dc15 pm15 an15 cd15 ct15), sl15⟩) (c15 : PySem.W.codeIn K cd15 "lane_at" = true) (k15 : PySem.W.keepIn K (.ref f15) = true)
    {f16 : Addr} {oc16 kV16 dc16 pm16 cd16 ct16 : Value} {od16 an16 : Option Addr} {sl16 : Array (Option Value)} (a16 : PySem.W.nsIn K mainGlobals "last_of" = some (some (.ref f16))) (l16 : K.lookup f16 = some ⟨oc16, od16, .func (PySem.W.fnOf "last_of" "last_of" (defArgs s_last_of) (defBody s_last_of) (defScope s_last_of) .none kV16 dc16 pm16 an16 cd16 ct16), sl16⟩) (c16 : PySem.W.codeIn K cd16 "last_of" = true) (k16 : PySem.W.keepIn K (.ref f16) = true)
    {f17 : Addr} {oc17 kV17 dc17 pm17 cd17 ct17 : Value} {od17 an17 : Option Addr} {sl17 : Array (Option Value)} (a17 : PySem.W.nsIn K mainGlobals "waves_with" = some (some (.ref f17))) (l17 : K.lookup f17 = some ⟨oc17, od17, .func (PySem.W.fnOf "waves_with" "waves_with" (defArgs s_waves_with) (defBody s_waves_with) (defScope s_waves_with) .none kV17 dc17 pm17 an17 cd17 ct17), sl17⟩) (c17 : PySem.W.codeIn K cd17 "waves_with" = true) (k17 : PySem.W.keepIn K (.ref f17) = true)
    {f18 : Addr} {oc18 kV18 dc18 pm18 cd18 ct18 : Value} {od18 an18 : Option Addr} {sl18 : Array (Option Value)} (a18 : PySem.W.nsIn K mainGlobals "count_waves" = some (some (.ref f18))) (l18 : K.lookup f18 = some ⟨oc18, od18, .func (PySem.W.fnOf "count_waves" "count_waves" (defArgs s_count_waves) (defBody s_count_waves) (defScope s_count_waves) .none kV18 dc18 pm18 an18 cd18 ct18), sl18⟩) (c18 : PySem.W.codeIn K cd18 "count_waves" = true) (k18 : PySem.W.keepIn K (.ref f18) = true)
    {f19 : Addr} {oc19 kV19 dc19 pm19 cd19 ct19 : Value} {od19 an19 : Option Addr} {sl19 : Array (Option Value)} (a19 : PySem.W.nsIn K mainGlobals "has" = some (some (.ref f19))) (l19 : K.lookup f19 = some ⟨oc19, od19, .func (PySem.W.fnOf "has" "has" (defArgs s_has) (defBody s_has) (defScope s_has) .none kV19 dc19 pm19 an19 cd19 ct19), sl19⟩) (c19 : PySem.W.codeIn K cd19 "has" = true) (k19 : PySem.W.keepIn K (.ref f19) = true)
    {f20 : Addr} {oc20 kV20 dc20 pm20 cd20 ct20 : Value} {od20 an20 : Option Addr} {sl20 : Array (Option Value)} (a20 : PySem.W.nsIn K mainGlobals "full_in" = some (some (.ref f20))) (l20 : K.lookup f20 = some ⟨oc20, od20, .func (PySem.W.fnOf "full_in" "full_in" (defArgs s_full_in) (defBody s_full_in) (defScope s_full_in) .none kV20 dc20 pm20 an20 cd20 ct20), sl20⟩) (c20 : PySem.W.codeIn K cd20 "full_in" = true) (k20 : PySem.W.keepIn K (.ref f20) = true)
    {f21 : Addr} {oc21 kV21 dc21 pm21 cd21 ct21 : Value} {od21 an21 : Option Addr} {sl21 : Array (Option Value)} (a21 : PySem.W.nsIn K mainGlobals "full_waves" = some (some (.ref f21))) (l21 : K.lookup f21 = some ⟨oc21, od21, .func (PySem.W.fnOf "full_waves" "full_waves" (defArgs s_full_waves) (defBody s_full_waves) (defScope s_full_waves) .none kV21 dc21 pm21 an21 cd21 ct21), sl21⟩) (c21 : PySem.W.codeIn K cd21 "full_waves" = true) (k21 : PySem.W.keepIn K (.ref f21) = true)
    {f22 : Addr} {oc22 kV22 dc22 pm22 cd22 ct22 : Value} {od22 an22 : Option Addr} {sl22 : Array (Option Value)} (a22 : PySem.W.nsIn K mainGlobals "wave_count" = some (some (.ref f22))) (l22 : K.lookup f22 = some ⟨oc22, od22, .func (PySem.W.fnOf "wave_count" "wave_count" (defArgs s_wave_count) (defBody s_wave_count) (defScope s_wave_count) .none kV22 dc22 pm22 an22 cd22 ct22), sl22⟩) (c22 : PySem.W.codeIn K cd22 "wave_count" = true) (k22 : PySem.W.keepIn K (.ref f22) = true)
    {f23 : Addr} {oc23 kV23 dc23 pm23 cd23 ct23 : Value} {od23 an23 : Option Addr} {sl23 : Array (Option Value)} (a23 : PySem.W.nsIn K mainGlobals "check_wave_number" = some (some (.ref f23))) (l23 : K.lookup f23 = some ⟨oc23, od23, .func (PySem.W.fnOf "check_wave_number" "check_wave_number" (defArgs s_check_wave_number) (defBody s_check_wave_number) (defScope s_check_wave_number) .none kV23 dc23 pm23 an23 cd23 ct23), sl23⟩) (c23 : PySem.W.codeIn K cd23 "check_wave_number" = true) (k23 : PySem.W.keepIn K (.ref f23) = true)
    {f24 : Addr} {oc24 kV24 dc24 pm24 cd24 ct24 : Value} {od24 an24 : Option Addr} {sl24 : Array (Option Value)} (a24 : PySem.W.nsIn K mainGlobals "in_wave" = some (some (.ref f24))) (l24 : K.lookup f24 = some ⟨oc24, od24, .func (PySem.W.fnOf "in_wave" "in_wave" (defArgs s_in_wave) (defBody s_in_wave) (defScope s_in_wave) .none kV24 dc24 pm24 an24 cd24 ct24), sl24⟩) (c24 : PySem.W.codeIn K cd24 "in_wave" = true) (k24 : PySem.W.keepIn K (.ref f24) = true)
    {f25 : Addr} {oc25 kV25 dc25 pm25 cd25 ct25 : Value} {od25 an25 : Option Addr} {sl25 : Array (Option Value)} (a25 : PySem.W.nsIn K mainGlobals "lanes_in_wave" = some (some (.ref f25))) (l25 : K.lookup f25 = some ⟨oc25, od25, .func (PySem.W.fnOf "lanes_in_wave" "lanes_in_wave" (defArgs s_lanes_in_wave) (defBody s_lanes_in_wave) (defScope s_lanes_in_wave) .none kV25 dc25 pm25 an25 cd25 ct25), sl25⟩) (c25 : PySem.W.codeIn K cd25 "lanes_in_wave" = true) (k25 : PySem.W.keepIn K (.ref f25) = true)
    {f26 : Addr} {oc26 kV26 dc26 pm26 cd26 ct26 : Value} {od26 an26 : Option Addr} {sl26 : Array (Option Value)} (a26 : PySem.W.nsIn K mainGlobals "_law_right" = some (some (.ref f26))) (l26 : K.lookup f26 = some ⟨oc26, od26, .func (PySem.W.fnOf "_law_right" "_law_right" (defArgs s__law_right) (defBody s__law_right) (defScope s__law_right) .none kV26 dc26 pm26 an26 cd26 ct26), sl26⟩) (c26 : PySem.W.codeIn K cd26 "_law_right" = true) (k26 : PySem.W.keepIn K (.ref f26) = true)
    {f27 : Addr} {oc27 kV27 dc27 pm27 cd27 ct27 : Value} {od27 an27 : Option Addr} {sl27 : Array (Option Value)} (a27 : PySem.W.nsIn K mainGlobals "_law_span" = some (some (.ref f27))) (l27 : K.lookup f27 = some ⟨oc27, od27, .func (PySem.W.fnOf "_law_span" "_law_span" (defArgs s__law_span) (defBody s__law_span) (defScope s__law_span) .none kV27 dc27 pm27 an27 cd27 ct27), sl27⟩) (c27 : PySem.W.codeIn K cd27 "_law_span" = true) (k27 : PySem.W.keepIn K (.ref f27) = true)
    {f28 : Addr} {oc28 kV28 dc28 pm28 cd28 ct28 : Value} {od28 an28 : Option Addr} {sl28 : Array (Option Value)} (a28 : PySem.W.nsIn K mainGlobals "law" = some (some (.ref f28))) (l28 : K.lookup f28 = some ⟨oc28, od28, .func (PySem.W.fnOf "law" "law" (defArgs s_law) (defBody s_law) (defScope s_law) .none kV28 dc28 pm28 an28 cd28 ct28), sl28⟩) (c28 : PySem.W.codeIn K cd28 "law" = true) (k28 : PySem.W.keepIn K (.ref f28) = true)
    (z_abs : PySem.W.nsIn K mainGlobals "abs" = some none)
    (z_all : PySem.W.nsIn K mainGlobals "all" = some none)
    (z_enumerate : PySem.W.nsIn K mainGlobals "enumerate" = some none)
    (z_int : PySem.W.nsIn K mainGlobals "int" = some none)
    (z_len : PySem.W.nsIn K mainGlobals "len" = some none)
    (z_max : PySem.W.nsIn K mainGlobals "max" = some none)
    (z_min : PySem.W.nsIn K mainGlobals "min" = some none)
    (z_range : PySem.W.nsIn K mainGlobals "range" = some none)
    (z_tuple : PySem.W.nsIn K mainGlobals "tuple" = some none)
    {tk_MOST_LETTERS : Tok} (n_MOST_LETTERS : PySem.W.nsIn K mainGlobals "MOST_LETTERS" = some (some (.int 8 tk_MOST_LETTERS)))
    {tk_LETTERS : Tok} (n_LETTERS : PySem.W.nsIn K mainGlobals "LETTERS" = some (some (.str "abcdefghijklmnopqrstuvwxyz" tk_LETTERS)))
    {tk_MOST_WAVE : Tok} (n_MOST_WAVE : PySem.W.nsIn K mainGlobals "MOST_WAVE" = some (some (.int 32 tk_MOST_WAVE)))
    (pg_Kernel : PySem.W.plainGet K C_Kernel Str.empty = true)
    (hd_Kernel : PySem.W.hasDictIn K C_Kernel = true)
    (po_Kernel : PySem.W.plainOver K C_Kernel = true)
    (sa_Kernel : PySem.W.findIn K (.ref C_Kernel) "__setattr__" = some (some (.builtin "object.__setattr__")))
    (mi_Kernel : PySem.W.makesIn K C_Kernel = true)
    (kc_Kernel : PySem.W.keepIn K (.ref C_Kernel) = true)
    (fi_Kernel : PySem.W.isFn K (.ref f4) = true)
    (na_Kernel_lane_count : PySem.W.findIn K (.ref C_Kernel) "lane_count" = some none)
    (na_Kernel_kept_statements : PySem.W.findIn K (.ref C_Kernel) "kept_statements" = some none)
    (na_Kernel_kept_barriers : PySem.W.findIn K (.ref C_Kernel) "kept_barriers" = some none)
    {p_ITEMS : Addr} {es_ITEMS : Array DictEntry} {n_ITEMS : Nat} (aD_ITEMS : PySem.W.nsIn K mainGlobals "ITEMS" = some (some (.ref p_ITEMS))) (lD_ITEMS : K.lookup p_ITEMS = some ⟨.type "dict", none, .dict es_ITEMS n_ITEMS, #[]⟩) (tD_ITEMS : es_ITEMS.toList.map He.keyOf = He.keysIn w.params ["put", "move", "sum"]) (wD_ITEMS : (p_ITEMS == sysModules) = false)
    {tk_ITEMS_0 : Tok} (kD_ITEMS_0 : PySem.W.nsIn K p_ITEMS "put" = some (some (.int 7 tk_ITEMS_0)))
    {tk_ITEMS_1 : Tok} (kD_ITEMS_1 : PySem.W.nsIn K p_ITEMS "move" = some (some (.int 9 tk_ITEMS_1)))
    {tk_ITEMS_2 : Tok} (kD_ITEMS_2 : PySem.W.nsIn K p_ITEMS "sum" = some (some (.int 11 tk_ITEMS_2)))
    {p_PLACES : Addr} {es_PLACES : Array DictEntry} {n_PLACES : Nat} (aD_PLACES : PySem.W.nsIn K mainGlobals "PLACES" = some (some (.ref p_PLACES))) (lD_PLACES : K.lookup p_PLACES = some ⟨.type "dict", none, .dict es_PLACES n_PLACES, #[]⟩) (tD_PLACES : es_PLACES.toList.map He.keyOf = He.keysIn w.params ["put", "move", "sum"]) (wD_PLACES : (p_PLACES == sysModules) = false)
    {r_PLACES_0 : Addr} {od_PLACES_0 : Option Addr} {it_PLACES_0 : Array Value} {nn_PLACES_0 : Nat} {sl_PLACES_0 : Array (Option Value)} (kD_PLACES_0 : PySem.W.nsIn K p_PLACES "put" = some (some (.ref r_PLACES_0))) (uD_PLACES_0 : K.lookup r_PLACES_0 = some ⟨.type "tuple", od_PLACES_0, .seq it_PLACES_0 nn_PLACES_0, sl_PLACES_0⟩) (sD_PLACES_0 : it_PLACES_0.size ≤ sizeLine) (vD_PLACES_0 : Vals (([2] : List Int).map V.int) it_PLACES_0.toList)
    {r_PLACES_1 : Addr} {od_PLACES_1 : Option Addr} {it_PLACES_1 : Array Value} {nn_PLACES_1 : Nat} {sl_PLACES_1 : Array (Option Value)} (kD_PLACES_1 : PySem.W.nsIn K p_PLACES "move" = some (some (.ref r_PLACES_1))) (uD_PLACES_1 : K.lookup r_PLACES_1 = some ⟨.type "tuple", od_PLACES_1, .seq it_PLACES_1 nn_PLACES_1, sl_PLACES_1⟩) (sD_PLACES_1 : it_PLACES_1.size ≤ sizeLine) (vD_PLACES_1 : Vals (([2, 5] : List Int).map V.int) it_PLACES_1.toList)
    {r_PLACES_2 : Addr} {od_PLACES_2 : Option Addr} {it_PLACES_2 : Array Value} {nn_PLACES_2 : Nat} {sl_PLACES_2 : Array (Option Value)} (kD_PLACES_2 : PySem.W.nsIn K p_PLACES "sum" = some (some (.ref r_PLACES_2))) (uD_PLACES_2 : K.lookup r_PLACES_2 = some ⟨.type "tuple", od_PLACES_2, .seq it_PLACES_2 nn_PLACES_2, sl_PLACES_2⟩) (sD_PLACES_2 : it_PLACES_2.size ≤ sizeLine) (vD_PLACES_2 : Vals (([2, 5, 8] : List Int).map V.int) it_PLACES_2.toList) :
    ∃ fd : FuncData, (∀ (s : Shared) (v : Value), BindsTo s fd ⟨[v], []⟩ [("script", v)]) ∧ ∀ base : Heap, K.In base → base.Ns mainGlobals mg → FnP l.prog w K mg base (PXE.clOf K) 7 fa fd ["script"] m_law := by
  have e := hfa.symm.trans (PySem.W.mg_of X G a28)
  cases e
  exact ⟨(txt_of (prog := l.prog) (w := w) X G aC_Kernel a0 l0 c0 k0 a1 l1 c1 k1 a2 l2 c2 k2 a3 l3 c3 k3 a4 l4 c4 k4 m4 o4 a5 l5 c5 k5 a6 l6 c6 k6 a7 l7 c7 k7 a8 l8 c8 k8 a9 l9 c9 k9 a10 l10 c10 k10 a11 l11 c11 k11 a12 l12 c12 k12 a13 l13 c13 k13 a14 l14 c14 k14 a15 l15 c15 k15 a16 l16 c16 k16 a17 l17 c17 k17 a18 l18 c18 k18 a19 l19 c19 k19 a20 l20 c20 k20 a21 l21 c21 k21 a22 l22 c22 k22 a23 l23 c23 k23 a24 l24 c24 k24 a25 l25 c25 k25 a26 l26 c26 k26 a27 l27 c27 k27 a28 l28 c28 k28 z_abs z_all z_enumerate z_int z_len z_max z_min z_range z_tuple n_MOST_LETTERS n_LETTERS n_MOST_WAVE pg_Kernel hd_Kernel po_Kernel sa_Kernel mi_Kernel kc_Kernel fi_Kernel na_Kernel_lane_count na_Kernel_kept_statements na_Kernel_kept_barriers aD_ITEMS lD_ITEMS tD_ITEMS wD_ITEMS kD_ITEMS_0 kD_ITEMS_1 kD_ITEMS_2 aD_PLACES lD_PLACES tD_PLACES wD_PLACES kD_PLACES_0 uD_PLACES_0 sD_PLACES_0 vD_PLACES_0 kD_PLACES_1 uD_PLACES_1 sD_PLACES_1 vD_PLACES_1 kD_PLACES_2 uD_PLACES_2 sD_PLACES_2 vD_PLACES_2).fd_law, fun s v => .of_eq rfl, fun base _ _ => ok_law (w := w) (txt_of (prog := l.prog) (w := w) X G aC_Kernel a0 l0 c0 k0 a1 l1 c1 k1 a2 l2 c2 k2 a3 l3 c3 k3 a4 l4 c4 k4 m4 o4 a5 l5 c5 k5 a6 l6 c6 k6 a7 l7 c7 k7 a8 l8 c8 k8 a9 l9 c9 k9 a10 l10 c10 k10 a11 l11 c11 k11 a12 l12 c12 k12 a13 l13 c13 k13 a14 l14 c14 k14 a15 l15 c15 k15 a16 l16 c16 k16 a17 l17 c17 k17 a18 l18 c18 k18 a19 l19 c19 k19 a20 l20 c20 k20 a21 l21 c21 k21 a22 l22 c22 k22 a23 l23 c23 k23 a24 l24 c24 k24 a25 l25 c25 k25 a26 l26 c26 k26 a27 l27 c27 k27 a28 l28 c28 k28 z_abs z_all z_enumerate z_int z_len z_max z_min z_range z_tuple n_MOST_LETTERS n_LETTERS n_MOST_WAVE pg_Kernel hd_Kernel po_Kernel sa_Kernel mi_Kernel kc_Kernel fi_Kernel na_Kernel_lane_count na_Kernel_kept_statements na_Kernel_kept_barriers aD_ITEMS lD_ITEMS tD_ITEMS wD_ITEMS kD_ITEMS_0 kD_ITEMS_1 kD_ITEMS_2 aD_PLACES lD_PLACES tD_PLACES wD_PLACES kD_PLACES_0 uD_PLACES_0 sD_PLACES_0 vD_PLACES_0 kD_PLACES_1 uD_PLACES_1 sD_PLACES_1 vD_PLACES_1 kD_PLACES_2 uD_PLACES_2 sD_PLACES_2 vD_PLACES_2)⟩
end K39

/-! K39_N: lanes by waves: the plain law. -/
namespace K39
open PN PM
theorem wave_iff {W x j : Int} (hW : 0 < W) : x / W = j ↔ W * j ≤ x ∧ x < W * j + W := by
  have e := Int.mul_ediv_add_emod x W
  have a := Int.emod_nonneg x (show W ≠ 0 by omega)
  have b := Int.emod_lt_of_pos x hW
  constructor
  · intro z; subst z; omega
  · rintro ⟨h1, h2⟩
    rw [show x = (x - W * j) + W * j by omega, Int.add_mul_ediv_left _ _ (by omega), Int.ediv_eq_zero_of_lt (by omega) (by omega)]
    omega
theorem row_eq {l h s r W : Int} (hW : 0 < W) (j : Int) : (listed l h s r).filter (fun x => decide (x / W = j)) = listed (max l (W * j)) (min h (W * j + W)) s r := by
  refine asc_ext ((listed_asc ..).filter _) (listed_asc ..) fun x => ?_
  rw [List.mem_filter, mem_listed, mem_listed, decide_eq_true_iff, wave_iff hW]
  omega
theorem lanes_zero {a b s r : Int} (hs : 0 < s) (h : b ≤ a) : lanesOf a b s r = 0 := by
  have n := lanes_nonneg a b s r
  by_cases z : lanesOf a b s r = 0
  · exact z
  · have c := (lanes_lt (l := a) (h := b) (r := r) hs (Int.le_refl 0)).mp (by omega)
    have := first_ge (l := a) (r := r) hs
    omega
theorem one_wave {a b s r W k : Int} (hs : 0 < s) (hW : 0 < W) (ha : W * k ≤ a) (hb : b ≤ W * k + W) : wavesWith a b s r W = if lanesOf a b s r = 0 then 0 else 1 := by
  have n := lanes_nonneg a b s r
  unfold wavesWith
  by_cases z : lanesOf a b s r = 0
  · rw [if_pos (.inl z), if_pos z, z]
  · rw [if_neg z]
    have c := last_lt (l := a) (h := b) (r := r) hs (by omega)
    have f := first_ge (l := a) (r := r) hs
    have g : firstOf a s r ≤ lastOf a b s r := by
      unfold lastOf
      have : 0 ≤ s * (lanesOf a b s r - 1) := Int.mul_nonneg (by omega) (by omega)
      omega
    by_cases w : W ≤ s
    · rw [if_pos (.inr w)]
      by_cases q : lanesOf a b s r = 1
      · exact q
      · have : s * 1 ≤ s * (lanesOf a b s r - 1) := Int.mul_le_mul_of_nonneg_left (by omega) (by omega)
        unfold lastOf at c
        omega
    · rw [if_neg (by omega), (wave_iff (x := lastOf a b s r) (j := k) hW).mpr (by omega), (wave_iff (x := firstOf a s r) (j := k) hW).mpr (by omega)]
      omega
theorem one_full {a b s r W t k : Int} (hs : 0 < s) (hW : 0 < W) (h0 : 0 ≤ r) (h1 : r < s) (ha : W * k ≤ a) (ab : a ≤ b) (hb : b ≤ W * k + W) (bt : b ≤ t) (kt : W * k < t) :
    fullIn a b s r W t = if lanesOf a b s r = min W (t - W * k) then 1 else 0 := by
  have n := lanes_nonneg a b s r
  have le := lanes_le' (l := a) (h := b) (r := r) hs ab
  unfold fullIn
  by_cases z : 1 < s ∧ 1 < W
  · rw [if_pos z]
    -- lanes of a greater step fill no two neighbours
    have few : lanesOf a b s r ≤ 1 ∨ lanesOf a b s r < b - a := by
      by_cases q : lanesOf a b s r ≤ 1
      · exact .inl q
      · refine .inr ?_
        have c := last_lt (l := a) (h := b) (r := r) hs (by omega)
        have f := first_ge (l := a) (r := r) hs
        unfold lastOf at c
        have : 2 * (lanesOf a b s r - 1) ≤ s * (lanesOf a b s r - 1) := Int.mul_le_mul_of_nonneg_right (by omega) (by omega)
        omega
    by_cases q : t - W * k = 1
    · have e : t % W = 1 := by
        rw [show t = 1 + W * k by omega, Int.add_mul_emod_self_left]
        exact Int.emod_eq_of_lt (by omega) (by omega)
      have key : lanesOf a b s r = 1 ↔ (a ≤ t - 1 ∧ t - 1 < b ∧ (t - 1) % s = r) := by
        rw [lane_iff hs h0 h1]
        constructor
        · intro m
          have c := (lanes_lt (l := a) (h := b) (r := r) hs (Int.le_refl 0)).mp (by omega)
          have f := first_ge (l := a) (r := r) hs
          rw [Int.mul_zero] at c
          exact ⟨0, Int.le_refl _, by omega, by rw [Int.mul_zero]; omega⟩
        · rintro ⟨k', q1, q2, q3⟩
          omega
      rw [show min W (t - W * k) = 1 by omega]
      by_cases m : lanesOf a b s r = 1
      · obtain ⟨m1, m2, m3⟩ := key.mp m
        rw [if_pos m, if_pos ⟨e, m1, m2, m3⟩]
      · rw [if_neg m, if_neg (fun y => m (key.mpr y.2))]
    · rw [if_neg (show ¬ lanesOf a b s r = min W (t - W * k) by omega), if_neg]
      rintro ⟨y1, y2, y3, y4⟩
      have : (t - 1) % W = 0 := by
        have e := Int.mul_ediv_add_emod t W
        rw [y1] at e
        rw [show t - 1 = 0 + W * (t / W) by omega, Int.add_mul_emod_self_left]
        rfl
      have e := Int.mul_ediv_add_emod (t - 1) W
      rw [this] at e
      have lo : W * k ≤ t - 1 := by omega
      have w1 : (t - 1) / W = k := (wave_iff hW).mpr ⟨lo, by omega⟩
      rw [w1] at e
      omega
  · rw [if_neg z]
    by_cases w : W = 1
    · rw [if_pos w]
      have : lanesOf a b s r ≤ 1 := by omega
      rw [show min W (t - W * k) = 1 by omega]
      split <;> omega
    · rw [if_neg w]
      have s1 : s = 1 := by omega
      have r0 : r = 0 := by omega
      subst s1 r0
      have len : lanesOf a b 1 0 = b - a := by
        unfold lanesOf firstOf
        rw [Int.emod_one, Int.ediv_one]
        omega
      rw [len]
      have ca : (a + W - 1) / W = if a = W * k then k else k + 1 := by
        split
        · exact (wave_iff hW).mpr (by omega)
        · exact (wave_iff hW).mpr (by rw [Int.mul_add]; omega)
      rw [ca]
      by_cases hk : b ≤ W * k
      · have e1 : b = W * k := by omega
        have e2 : a = W * k := by omega
        rw [if_neg (show ¬ b = t by omega), if_pos e2, (wave_iff (x := b) (j := k) hW).mpr (by omega), if_neg (by omega)]
        omega
      · by_cases bt2 : b = t
        · rw [if_pos bt2, (wave_iff (x := b + W - 1) (j := k + 1) hW).mpr (by rw [Int.mul_add]; omega)]
          by_cases e2 : a = W * k
          · rw [if_pos e2, if_pos (by omega)]; omega
          · rw [if_neg e2, if_neg (by omega)]; omega
        · rw [if_neg bt2]
          by_cases e3 : b = W * k + W
          · rw [(wave_iff (x := b) (j := k + 1) hW).mpr (by rw [Int.mul_add]; omega)]
            by_cases e2 : a = W * k
            · rw [if_pos e2, if_pos (by omega)]; omega
            · rw [if_neg e2, if_neg (by omega)]; omega
          · have q : ¬ b - a = min W (t - W * k) := by omega
            rw [(wave_iff (x := b) (j := k) hW).mpr (by omega), if_neg q]
            split <;> omega
/-- the lanes of a guard in a wave -/
def rowOf (l h s r W : Int) (j : Int) : List Int := listed (max l (W * j)) (min h (W * j + W)) s r
def cut (l h W k : Int) : Int := min h (max l (W * k))
section
variable {l h s r W : Int} (hs : 0 < s) (hW : 0 < W) (h0 : 0 ≤ r) (h1 : r < s) (l0 : 0 ≤ l) (lh : l ≤ h)
include hs hW h0 h1 l0 lh
theorem cut_step (f : Int → Int → Int) (fz : f l l = 0) (fadd : ∀ c d, l ≤ c → c ≤ d → d ≤ h → c % W = 0 → f l c + f c d = f l d) (g : Int → Int) (k : Int) (k0 : 0 ≤ k)
    (fone : ∀ a b, W * k ≤ a → a ≤ b → b ≤ W * k + W → b ≤ h → f a b = g (lanesOf a b s r)) (gz : g 0 = 0) : f l (cut l h W (k + 1)) = f l (cut l h W k) + g (lanesOf (max l (W * k)) (min h (W * k + W)) s r) := by
  have m : W * (k + 1) = W * k + W := by rw [Int.mul_add, Int.mul_one]
  unfold cut
  rw [m]
  by_cases A : W * k + W ≤ l
  · rw [show min h (max l (W * k + W)) = l by omega, show min h (max l (W * k)) = l by omega, lanes_zero hs (by omega), gz]
    omega
  · by_cases B : h ≤ W * k
    · rw [show min h (max l (W * k + W)) = h by omega, show min h (max l (W * k)) = h by omega, lanes_zero hs (by omega), gz]
      omega
    · rw [show min h (max l (W * k + W)) = min h (W * k + W) by omega]
      by_cases D : l ≤ W * k
      · rw [show min h (max l (W * k)) = W * k by omega, show max l (W * k) = W * k by omega, ← fadd (W * k) (min h (W * k + W)) D (by omega) (by omega) (by rw [Int.mul_emod_right]), fone (W * k) (min h (W * k + W)) (by omega) (by omega) (by omega) (by omega)]
      · rw [show min h (max l (W * k)) = l by omega, show max l (W * k) = l by omega, fz, fone l (min h (W * k + W)) (by omega) (by omega) (by omega) (by omega)]
        omega
theorem cut_count (f : Int → Int → Int) (fz : f l l = 0) (fadd : ∀ c d, l ≤ c → c ≤ d → d ≤ h → c % W = 0 → f l c + f c d = f l d) (p : Nat → Int → Bool) :
    ∀ n : Nat, (∀ k : Nat, k < n → p k 0 = false ∧ ∀ a b, W * (k : Int) ≤ a → a ≤ b → b ≤ W * (k : Int) + W → b ≤ h → f a b = if p k (lanesOf a b s r) = true then 1 else 0) → f l (cut l h W (n : Int)) = ((List.range n).countP fun j : Nat => p j ((rowOf l h s r W (j : Int)).length : Int))
  | 0, _ => by
    rw [show cut l h W ((0 : Nat) : Int) = l by unfold cut; rw [show ((0 : Nat) : Int) = 0 from rfl, Int.mul_zero]; omega, fz]
    rfl
  | n + 1, hp => by
    rw [List.range_succ, List.countP_append, List.countP_singleton]
    have e := cut_step hs hW h0 h1 l0 lh f fz fadd (fun m => if p n m = true then 1 else 0) (n : Int) (by omega) (hp n (by omega)).2 (by rw [(hp n (by omega)).1]; rfl)
    rw [show ((n + 1 : Nat) : Int) = (n : Int) + 1 by omega, e, cut_count f fz fadd p n fun k hk => hp k (by omega)]
    unfold rowOf
    rw [listed_len hs h0 h1]
    split <;> simp_all
end
theorem wavesWith_zero {l s r W : Int} (hs : 0 < s) : wavesWith l l s r W = 0 := by
  have := lanes_zero (r := r) hs (Int.le_refl l)
  unfold wavesWith
  rw [if_pos (.inl this), this]
theorem fullIn_zero {l s r W t : Int} (hs : 0 < s) (hW : 0 < W) : fullIn l l s r W t = 0 := by
  unfold fullIn
  by_cases z : 1 < s ∧ 1 < W
  · rw [if_pos z, if_neg (by omega)]
  · rw [if_neg z]
    by_cases w : W = 1
    · rw [if_pos w]; exact lanes_zero hs (Int.le_refl l)
    · rw [if_neg w]
      have : l / W ≤ (l + W - 1) / W := Int.ediv_le_ediv hW (by omega)
      split <;> omega
/-- how many waves there are -/
def nw (t W : Int) : Nat := ((t + W - 1) / W).toNat
theorem nw_lt {t W : Int} (hW : 0 < W) {k : Nat} (h : k < nw t W) : W * (k : Int) < t := by
  unfold nw at h
  have e := Int.mul_ediv_add_emod (t + W - 1) W
  have b := Int.emod_nonneg (t + W - 1) (show W ≠ 0 by omega)
  have : W * ((k : Int) + 1) ≤ W * ((t + W - 1) / W) := Int.mul_le_mul_of_nonneg_left (by omega) (by omega)
  rw [Int.mul_add, Int.mul_one] at this
  omega
theorem nw_all {t W : Int} (hW : 0 < W) (t0 : 0 ≤ t) : t ≤ W * (nw t W : Int) := by
  unfold nw
  have e := Int.mul_ediv_add_emod (t + W - 1) W
  have b := Int.emod_lt_of_pos (t + W - 1) hW
  have c : 0 ≤ (t + W - 1) / W := Int.ediv_nonneg (by omega) (by omega)
  rw [Int.toNat_of_nonneg c]
  omega
theorem waves_count {l h s r W t : Int} (hs : 0 < s) (hW : 0 < W) (h0 : 0 ≤ r) (h1 : r < s) (l0 : 0 ≤ l) (lh : l ≤ h) (ht : h ≤ t) :
    wavesWith l h s r W = ((List.range (nw t W)).countP fun j : Nat => decide ((rowOf l h s r W (j : Int)).length ≠ 0) : Nat) := by
  have e := cut_count hs hW h0 h1 l0 lh (fun a b => wavesWith a b s r W) (wavesWith_zero hs) (fun c d a b _ m => waves_add hs hW h0 h1 a b m) (fun _ m => decide (m ≠ 0)) (nw t W) fun k hk => ⟨by simp, fun a b q1 q2 q3 q4 => by
    rw [one_wave hs hW q1 q3]
    by_cases z : lanesOf a b s r = 0 <;> simp [z]⟩
  have a := nw_all (t := t) hW (by omega)
  rw [show cut l h W (nw t W : Int) = h by unfold cut; omega] at e
  rw [e]
  congr 2
  funext j
  simp
theorem full_count {l h s r W t : Int} (hs : 0 < s) (hW : 0 < W) (h0 : 0 ≤ r) (h1 : r < s) (l0 : 0 ≤ l) (lh : l ≤ h) (ht : h ≤ t) :
    fullIn l h s r W t = ((List.range (nw t W)).countP fun j : Nat => decide (((rowOf l h s r W (j : Int)).length : Int) = min W (t - W * (j : Int))) : Nat) := by
  have e := cut_count hs hW h0 h1 l0 lh (fun a b => fullIn a b s r W t) (fullIn_zero hs hW) (fun c d a b q m => full_add hs hW h0 h1 a b (by omega) m) (fun k m => decide (m = min W (t - W * (k : Int)))) (nw t W) fun k hk => ⟨by
      have := nw_lt hW hk
      simp; omega, fun a b q1 q2 q3 q4 => by
    rw [one_full hs hW h0 h1 q1 q2 q3 (by omega) (nw_lt hW hk)]
    by_cases z : lanesOf a b s r = min W (t - W * (k : Int)) <;> simp [z]⟩
  have a := nw_all (t := t) hW (by omega)
  rw [show cut l h W (nw t W : Int) = h by unfold cut; omega] at e
  exact e
end K39

/-! K39_L: the law's own defs. -/
namespace K39
open PySem PySem.Spec PyProof.Rows L2 PL PN PM
local macro_rules | `(tactic| walk_at "ev") => `(tactic| try simp only [mOf, endF, start0, gSeq, gNop, gAsg, gRet, gRetO, gAsgO, gDrop, gIf, gOpt, gPar, gPar3, gAug, aName, asNil, asCons, aTup, aLst, setV, setO, eVar, eC, eBin, eUn, eTup, aNil, aCons, oLst, frz, eCall, oCall, avN, avK, permL, lNil, lPv, lSl, tOf, tTru, tNt, tAn, tOrr, eIf, eAn, eOr, eNt, eChain, eCallB, eIxM, gSetIx, getM, pTru, pAdd, pSub, pMul, pFdiv, pMod, pPow, pNeg, pLt, pLe, pGt, pGe, pIs, pIsNot, pAddI, pIx, pLen, pAbs, pMax2, pMin2, Res.bind_ok, Res.bind_ex, Res.bind_stuck, Res.fl_ok, Res.fl_ex, Res.fl_stuck, Res.opt_some, Res.opt_none, lowerA, keyOf, getK, getAll, setAll, setK, distinct, List.map_cons, List.map_nil, List.length_cons, List.length_nil, List.replicate, List.cons_append, List.nil_append, List.append_nil, List.getElem?_cons_zero, List.getElem?_cons_succ, List.getElem?_nil, List.set_cons_zero, List.set_cons_succ, List.filterMap_cons, List.filterMap_nil, Option.bind_some, Option.map_some, Option.elim_some, if_true, if_false, Nat.reduceAdd, Nat.reduceSub, Nat.reduceEqDiff, Nat.reduceLeDiff, ↓reduceIte, Bool.false_eq_true, at0, at1, at2, at3, pEq, pNe, eqB_int, Option.some.injEq, decide_true, decide_false, not_true_eq_false, not_false_eq_true, Bool.and_true, ne_eq, reduceCtorEq, Bool.true_eq_false, Bool.not_true, Bool.not_false, frz, noEx, wipeS, wipeR, backS, backR, keepV, oComp, gFor, iAny, iRange1, iRange2, iRange3, iRangeW1, iRangeW2, eCallQ, oRgW2, oRgW, pInt1, iEnumQ, eDct, iTxt, eFld, eMake, gSetFld, eFldM, eTupV, putP, eLenSet, gFrz, Nat.reduceLT, oRg2, oRg1, oRg, tYesD, pIn, pNotIn, eSl, pNo, pSo, forL_nil, gApp, gParO, List.not_mem_nil, List.not_mem_nil])
local macro_rules | `(tactic| walk_at "evs") => `(tactic| simp only [*, mOf, endF, start0, gSeq, gNop, gAsg, gRet, gRetO, gAsgO, gDrop, gIf, gOpt, gPar, gPar3, gAug, aName, asNil, asCons, aTup, aLst, setV, setO, eVar, eC, eBin, eUn, eTup, aNil, aCons, oLst, frz, eCall, oCall, avN, avK, permL, lNil, lPv, lSl, tOf, tTru, tNt, tAn, tOrr, eIf, eAn, eOr, eNt, eChain, eCallB, eIxM, gSetIx, getM, pTru, pAdd, pSub, pMul, pFdiv, pMod, pPow, pNeg, pLt, pLe, pGt, pGe, pIs, pIsNot, pAddI, pIx, pLen, pAbs, pMax2, pMin2, Res.bind_ok, Res.bind_ex, Res.bind_stuck, Res.fl_ok, Res.fl_ex, Res.fl_stuck, Res.opt_some, Res.opt_none, lowerA, keyOf, getK, getAll, setAll, setK, distinct, List.map_cons, List.map_nil, List.length_cons, List.length_nil, List.replicate, List.cons_append, List.nil_append, List.append_nil, List.getElem?_cons_zero, List.getElem?_cons_succ, List.getElem?_nil, List.set_cons_zero, List.set_cons_succ, List.filterMap_cons, List.filterMap_nil, Option.bind_some, Option.map_some, Option.elim_some, if_true, if_false, Nat.reduceAdd, Nat.reduceSub, Nat.reduceEqDiff, Nat.reduceLeDiff, ↓reduceIte, Bool.false_eq_true, at0, at1, at2, at3, pEq, pNe, eqB_int, Option.some.injEq, decide_true, decide_false, not_true_eq_false, not_false_eq_true, Bool.and_true, ne_eq, reduceCtorEq, Bool.true_eq_false, Bool.not_true, Bool.not_false, frz, noEx, wipeS, wipeR, backS, backR, keepV, oComp, gFor, iAny, iRange1, iRange2, iRange3, iRangeW1, iRangeW2, eCallQ, oRgW2, oRgW, pInt1, iEnumQ, eDct, iTxt, eFld, eMake, gSetFld, eFldM, eTupV, putP, eLenSet, gFrz, Nat.reduceLT, oRg2, oRg1, oRg, tYesD, pIn, pNotIn, eSl, pNo, pSo, forL_nil, gApp, gParO, List.not_mem_nil, List.not_mem_nil, eq_self, not_true_eq_false, not_false_eq_true, ix30, ix31, ix32, Bool.and_self, and_self, and_true, true_and])
noncomputable def q__law_guard_1 : Stt → Fl := (gAsg (eBin pIx (frz (oLst (aCons (eC (.int 0)) (aCons (eCall PM.m__law_draw_2 (avN 2 (lSl 0 (lPv (eBin pAdd (eVar 1) (eC (.int 1))) lNil)))) aNil)))) (eCall PM.m__law_draw_2 (avN 2 (lSl 0 (lPv (eC (.int 2)) lNil))))) (aName 2))
noncomputable def q__law_guard_2 : Stt → Fl := (gAsg (eBin pIx (frz (oLst (aCons (eVar 1) (aCons (eBin pAdd (eVar 2) (eCall PM.m__law_draw_2 (avN 2 (lSl 0 (lPv (eBin pAdd (eBin pSub (eVar 1) (eVar 2)) (eC (.int 1))) lNil))))) aNil)))) (eCall PM.m__law_draw_2 (avN 2 (lSl 0 (lPv (eC (.int 2)) lNil))))) (aName 3))
noncomputable def q__law_guard_3 : Stt → Fl := (gAsg (eBin pIx (frz (oLst (aCons (eC (.int 1)) (aCons (eC (.int 1)) (aCons (eC (.int 1)) (aCons (eC (.int 2)) (aCons (eC (.int 3)) (aCons (eC (.int 4)) (aCons (eC (.int 5)) (aCons (eC (.int 7)) (aCons (eC (.int 33)) (aCons (eBin pAdd (eC (.int 8)) (eCall PM.m__law_draw_2 (avN 2 (lSl 0 (lPv (eC (.int 24)) lNil))))) aNil)))))))))))) (eCall PM.m__law_draw_2 (avN 2 (lSl 0 (lPv (eC (.int 10)) lNil))))) (aName 4))
noncomputable def q__law_guard_4 : Stt → Fl := (gRet (eTup (aCons (eVar 2) (aCons (eVar 3) (aCons (eVar 4) (aCons (eCall PM.m__law_draw_2 (avN 2 (lSl 0 (lPv (eVar 4) lNil)))) aNil))))))
theorem g__law_guard_eq : g__law_guard = (gSeq q__law_guard_1 (gSeq q__law_guard_2 (gSeq q__law_guard_3 (gSeq q__law_guard_4 gNop)))) := rfl
noncomputable def l__law_own_1c : PV → Stt → Option Stt := (aName 5)
noncomputable def l__law_own_1d : Stt → Res Bool := (tOf (eBin pEq (eBin pMod (eVar 5) (eVar 3)) (eVar 4)))
noncomputable def l__law_own_1e : Stt → Res PV := (eVar 5)
noncomputable def q__law_own_1 : Stt → Fl := (gAsg (eVar 0) (aTup 4 (asCons (aName 1) (asCons (aName 2) (asCons (aName 3) (asCons (aName 4) asNil))))))
noncomputable def q__law_own_2 : Stt → Fl := (gRet (frz (oComp [5] (iRangeW2 (aCons (eVar 1) (aCons (eVar 2) aNil))) l__law_own_1c l__law_own_1d l__law_own_1e)))
theorem g__law_own_eq : g__law_own = (gSeq q__law_own_1 (gSeq q__law_own_2 gNop)) := rfl
noncomputable def q__law_span_1 : Stt → Fl := (gRet (eBin pIx (frz (oLst (aCons (eC (.int 1)) (aCons (eC (.int 2)) (aCons (eC (.int 3)) (aCons (eC (.int 4)) (aCons (eC (.int 5)) (aCons (eC (.int 8)) (aCons (eC (.int 16)) (aCons (eC (.int 31)) (aCons (eC (.int 32)) (aCons (eBin pAdd (eC (.int 1)) (eCall PM.m__law_draw_2 (avN 2 (lSl 0 (lPv (eC (.int 32)) lNil))))) aNil)))))))))))) (eCall PM.m__law_draw_2 (avN 2 (lSl 0 (lPv (eC (.int 10)) lNil))))))
theorem g__law_span_eq : g__law_span = (gSeq q__law_span_1 gNop) := rfl
noncomputable def l__law_waves_1b : PV → Stt → Option Stt := (aName 4)
noncomputable def l__law_waves_1c_s1 : Stt → Fl := (gAppN 3 (eBin pFdiv (eVar 4) (eVar 2)) 4)
noncomputable def l__law_waves_1c : Stt → Fl := (gSeq l__law_waves_1c_s1 gNop)
noncomputable def q__law_waves_1 : Stt → Fl := (gAsgO 3 (oCompN [5] (iRange3 (aCons (eC (.int 0)) (aCons (eVar 1) (aCons (eVar 2) aNil)))) (aName 5)))
noncomputable def q__law_waves_2 : Stt → Fl := (gFor (iAny (eCall m__law_own (avN 1 (lPv (eVar 0) lNil)))) l__law_waves_1b l__law_waves_1c)
noncomputable def q__law_waves_3 : Stt → Fl := (gFrzL 3)
noncomputable def q__law_waves_4 : Stt → Fl := (gRet (eVar 3))
theorem g__law_waves_eq : g__law_waves = (gSeq q__law_waves_1 (gSeq q__law_waves_2 (gSeq q__law_waves_3 (gSeq q__law_waves_4 gNop)))) := rfl
noncomputable def l__law_right_1c : PV → Stt → Option Stt := (aTup 2 (asCons (aName 10) (asCons (aName 11) asNil)))
noncomputable def l__law_right_1d : Stt → Res Bool := (tOf (eBin pEq (eCallB pLen (aCons (eVar 11) aNil)) (eCallB pMin2 (aCons (eVar 4) (aCons (eBin pSub (eVar 3) (eBin pMul (eVar 4) (eVar 10))) aNil)))))
noncomputable def l__law_right_1e : Stt → Res PV := (eVar 11)
noncomputable def l__law_right_2c : PV → Stt → Option Stt := (aName 11)
noncomputable def l__law_right_2d : Stt → Res Bool := (tOf (eBin pNe (eVar 11) (frz (oLst aNil))))
noncomputable def l__law_right_2e : Stt → Res PV := (eVar 11)
noncomputable def l__law_right_3c : PV → Stt → Option Stt := (aName 10)
noncomputable def l__law_right_3d : Stt → Res Bool := tYesD
noncomputable def l__law_right_3e : Stt → Res PV := (eCall PM.m_lanes_in_wave (avN 4 (lPv (eVar 0) (lPv (eVar 1) (lPv (eVar 4) (lPv (eVar 10) lNil))))))
noncomputable def l__law_right_4c : PV → Stt → Option Stt := (aName 11)
noncomputable def l__law_right_4d : Stt → Res Bool := tYesD
noncomputable def l__law_right_4e : Stt → Res PV := (eCallB pLen (aCons (eVar 11) aNil))
noncomputable def q__law_right_1 : Stt → Fl := (gAsg (eCall m__law_waves (avN 3 (lPv (eVar 2) (lPv (eVar 3) (lPv (eVar 4) lNil))))) (aName 5))
noncomputable def q__law_right_2 : Stt → Fl := (gAsg (frz (oComp [10, 11] (iEnumQ (aCons (eVar 5) aNil)) l__law_right_1c l__law_right_1d l__law_right_1e)) (aName 6))
noncomputable def q__law_right_3 : Stt → Fl := (gAsg (frz (oLst (aCons (eCallB pLen (aCons (frz (oComp [11] (iAny (eVar 5)) l__law_right_2c l__law_right_2d l__law_right_2e)) aNil)) (aCons (eCallB pLen (aCons (eVar 6) aNil)) aNil)))) (aName 7))
noncomputable def q__law_right_4 : Stt → Fl := (gIf (tOf (eBin pNe (frz (oLst (aCons (eCall PM.m_count_waves (avN 3 (lPv (eVar 0) (lPv (eVar 1) (lPv (eVar 4) lNil))))) (aCons (eCall PM.m_full_waves (avN 3 (lPv (eVar 0) (lPv (eVar 1) (lPv (eVar 4) lNil))))) aNil)))) (eVar 7))) (gSeq (gRet (eC (.bl false))) gNop) gNop)
noncomputable def q__law_right_5 : Stt → Fl := (gIf (tOf (eBin pNe (frz (oLst (aCons (eCall PM.m_count_waves (avN 3 (avK 0 3 [2, 1, 0] lNil (lPv (eVar 4) (lPv (eVar 1) (lPv (eVar 0) lNil)))))) (aCons (eCall PM.m_full_waves (avN 3 (avK 0 3 [2, 1, 0] lNil (lPv (eVar 4) (lPv (eVar 1) (lPv (eVar 0) lNil)))))) aNil)))) (eVar 7))) (gSeq (gRet (eC (.bl false))) gNop) gNop)
noncomputable def q__law_right_6 : Stt → Fl := (gAsg (frz (oComp [10] (iRangeW1 (aCons (eCallB pLen (aCons (eVar 5) aNil)) aNil)) l__law_right_3c l__law_right_3d l__law_right_3e)) (aName 8))
noncomputable def q__law_right_7 : Stt → Fl := (gAsg (eCall PM.m_lanes_in_wave (avN 4 (avK 0 4 [3, 2, 1, 0] lNil (lPv (eBin pSub (eCallB pLen (aCons (eVar 5) aNil)) (eC (.int 1))) (lPv (eVar 4) (lPv (eVar 1) (lPv (eVar 0) lNil))))))) (aName 9))
noncomputable def q__law_right_8 : Stt → Fl := (gRet (eAn (eBin pEq (eVar 8) (frz (oComp [11] (iAny (eVar 5)) l__law_right_4c l__law_right_4d l__law_right_4e))) (eBin pEq (eVar 9) (eBin pIx (eVar 8) (eUn pNeg (eC (.int 1)))))))
theorem g__law_right_eq : g__law_right = (gSeq q__law_right_1 (gSeq q__law_right_2 (gSeq q__law_right_3 (gSeq q__law_right_4 (gSeq q__law_right_5 (gSeq q__law_right_6 (gSeq q__law_right_7 (gSeq q__law_right_8 gNop)))))))) := rfl
noncomputable def l_law_1b : PV → Stt → Option Stt := (aName 1)
noncomputable def l_law_2b : PV → Stt → Option Stt := (aName 3)
noncomputable def l_law_3c : PV → Stt → Option Stt := (aName 13)
noncomputable def l_law_3d : Stt → Res Bool := tYesD
noncomputable def l_law_3e : Stt → Res PV := (eCall m__law_guard (avN 2 (lSl 2 (lPv (eVar 4) lNil))))
noncomputable def l_law_4c : PV → Stt → Option Stt := (aName 8)
noncomputable def l_law_4d : Stt → Res Bool := tYesD
noncomputable def l_law_4e : Stt → Res PV := (eTup (aCons (eC (.str "put")) (aCons (eVar 8) (aCons (eC (.str "x")) (aCons (eC (.int 1)) (aCons (eC (.int 0)) (aCons (eC (.int 0)) (aCons (eC (.int 0)) aNil))))))))
noncomputable def l_law_5b : PV → Stt → Option Stt := (aTup 2 (asCons (aName 7) (asCons (aName 8) asNil)))
noncomputable def l_law_6b : PV → Stt → Option Stt := (aName 10)
noncomputable def l_law_6c_s1 : Stt → Fl := (gIf (tNt (tTru (eCall m__law_right (avN 5 (lPv (eVar 6) (lPv (eVar 7) (lPv (eVar 8) (lPv (eVar 4) (lPv (eVar 10) lNil))))))))) (gSeq (gRet (eC (.bl false))) gNop) gNop)
noncomputable def l_law_6c : Stt → Fl := (gSeq l_law_6c_s1 gNop)
noncomputable def l_law_5c_s1 : Stt → Fl := (gAsg (frz (oLst (aCons (eCall m__law_span (avN 1 (lSl 2 lNil))) (aCons (eCall m__law_span (avN 1 (lSl 2 lNil))) aNil)))) (aName 9))
noncomputable def l_law_5c_s2 : Stt → Fl := (gFor (iAny (eBin pAdd (eVar 9) (eSl (eVar 9) pNo (pSo (eC (.int 1)))))) l_law_6b l_law_6c)
noncomputable def l_law_5c : Stt → Fl := (gSeq l_law_5c_s1 (gSeq l_law_5c_s2 gNop))
noncomputable def l_law_2c_s1 : Stt → Fl := (gAsg (eBin pAdd (eC (.int 1)) (eCall PM.m__law_draw_2 (avN 2 (lSl 2 (lPv (eBin pIx (frz (oLst (aCons (eC (.int 6)) (aCons (eC (.int 40)) (aCons (eC (.int 100)) aNil))))) (eCall PM.m__law_draw_2 (avN 2 (lSl 2 (lPv (eC (.int 3)) lNil))))) lNil))))) (aName 4))
noncomputable def l_law_2c_s2 : Stt → Fl := (gAsg (frz (oComp [13] (iRangeW1 (aCons (eBin pAdd (eC (.int 1)) (eCall PM.m__law_draw_2 (avN 2 (lSl 2 (lPv (eC (.int 3)) lNil))))) aNil)) l_law_3c l_law_3d l_law_3e)) (aName 5))
noncomputable def l_law_2c_s3 : Stt → Fl := (gAsg (eMake "Kernel" PM.m_Kernel___init__ 4 [.tup []] (aCons (eVar 4) (aCons (frz (oComp [8] (iAny (eVar 5)) l_law_4c l_law_4d l_law_4e)) aNil))) (aName 6))
noncomputable def l_law_2c_s4 : Stt → Fl := (gFor (iEnumQ (aCons (eVar 5) aNil)) l_law_5b l_law_5c)
noncomputable def l_law_2c : Stt → Fl := (gSeq l_law_2c_s1 (gSeq l_law_2c_s2 (gSeq l_law_2c_s3 (gSeq l_law_2c_s4 gNop))))
noncomputable def l_law_1c_s1 : Stt → Fl := (gAsgO 2 (oCall PM.m__law_pool (avN 2 (lPv (eVar 0) (lPv (eVar 1) lNil)))))
noncomputable def l_law_1c_s2 : Stt → Fl := (gFor (iRangeW1 (aCons (eC (.int 8)) aNil)) l_law_2b l_law_2c)
noncomputable def l_law_1c : Stt → Fl := (gSeq l_law_1c_s1 (gSeq l_law_1c_s2 gNop))
noncomputable def q_law_1 : Stt → Fl := (gFor (iRangeW1 (aCons (eCallB pMax2 (aCons (eC (.int 1)) (aCons (eCallB pMin2 (aCons (eC (.int 10)) (aCons (eCallB pLen (aCons (eVar 0) aNil)) aNil))) aNil))) aNil)) l_law_1b l_law_1c)
noncomputable def q_law_2 : Stt → Fl := (gAsg (eMake "Kernel" PM.m_Kernel___init__ 4 [.tup []] (aCons (eC (.int 21)) (aCons (frz (oLst (aCons (eTup (aCons (eC (.str "put")) (aCons (eTup (aCons (eC (.int 0)) (aCons (eC (.int 21)) (aCons (eC (.int 5)) (aCons (eC (.int 0)) aNil))))) (aCons (eC (.str "x")) (aCons (eC (.int 1)) (aCons (eC (.int 0)) (aCons (eC (.int 0)) (aCons (eC (.int 0)) aNil)))))))) (aCons (eTup (aCons (eC (.str "put")) (aCons (eTup (aCons (eC (.int 3)) (aCons (eC (.int 21)) (aCons (eC (.int 1)) (aCons (eC (.int 0)) aNil))))) (aCons (eC (.str "x")) (aCons (eC (.int 1)) (aCons (eC (.int 0)) (aCons (eC (.int 0)) (aCons (eC (.int 0)) aNil)))))))) aNil)))) aNil))) (aName 11))
noncomputable def q_law_3 : Stt → Fl := (gAsg (frz (oLst (aCons (eCall PM.m_count_waves (avN 3 (lPv (eVar 11) (lPv (eC (.int 0)) (lPv (eC (.int 4)) lNil))))) (aCons (eCall PM.m_count_waves (avN 3 (lPv (eVar 11) (lPv (eC (.int 1)) (lPv (eC (.int 4)) lNil))))) (aCons (eCall PM.m_full_waves (avN 3 (lPv (eVar 11) (lPv (eC (.int 1)) (lPv (eC (.int 4)) lNil))))) (aCons (eCall PM.m_full_waves (avN 3 (lPv (eVar 11) (lPv (eC (.int 0)) (lPv (eC (.int 4)) lNil))))) aNil)))))) (aName 12))
noncomputable def q_law_4 : Stt → Fl := (gRet (eBin pEq (eVar 12) (frz (oLst (aCons (eC (.int 5)) (aCons (eC (.int 6)) (aCons (eC (.int 5)) (aCons (eC (.int 1)) aNil))))))))
theorem g_law_eq : g_law = (gSeq q_law_1 (gSeq q_law_2 (gSeq q_law_3 (gSeq q_law_4 gNop)))) := rfl
theorem atI_mem (l : List Int) (d : Int) (h0 : 0 ≤ d) (h1 : d < l.length) : ∃ v ∈ l, atI (l.map PV.int) d = some (.int v) := by
  obtain ⟨i, rfl⟩ := Int.eq_ofNat_of_zero_le h0
  have hi : i < l.length := by
    have : ((i : Nat) : Int) < (l.length : Int) := h1
    omega
  refine ⟨l[i], List.getElem_mem hi, atI_at ?_⟩
  rw [List.getElem?_map, List.getElem?_eq_getElem hi]
  rfl
theorem sm {x : Int} (h0 : 0 ≤ x) (h : x ≤ 1000) : x.natAbs < 2 ^ 8000 := Nat.lt_of_le_of_lt (m := 1000) (by omega) (by decide +kernel)
theorem e_span {k : Nat} {m : MO} (h : Pool k m) (hk : k < 2 ^ 50) : ∃ v m', m__law_span [.bor 0] [m] = .ok (.int v) [m'] ∧ 1 ≤ v ∧ v ≤ 32 ∧ Pool (k + 2) m' := by
  obtain ⟨d1, m1, e1, a1, b1, p1⟩ := e_pdraw h (by omega) 32 (by decide) (by decide +kernel)
  obtain ⟨d2, m2, e2, a2, b2, p2⟩ := e_pdraw p1 (by omega) 10 (by decide) (by decide +kernel)
  obtain ⟨v, hv, e3⟩ := atI_mem [1, 2, 3, 4, 5, 8, 16, 31, 32, 1 + d1] d2 a2 (by simpa using b2)
  refine ⟨v, m2, ?_, ?_, ?_, p2⟩
  · simp only [List.map_cons, List.map_nil] at e3
    clear h p1 p2 a1 a2 b1 b2 hv hk
    unfold m__law_span
    rw [g__law_span_eq]
    unfold q__law_span_1
    iterate 5 (walk_at "ev"; try walk_at "evs")
  · simp at hv; omega
  · simp at hv; omega
/-- a guard below a number of lanes -/
structure Gt (t l h s r : Int) : Prop where
  t0 : 1 ≤ t
  tb : t ≤ 100
  l0 : 0 ≤ l
  lh : l ≤ h
  ht : h ≤ t
  r0 : 0 ≤ r
  r1 : r < s
  sb : s ≤ 33
theorem Gt.gs {t l h s r : Int} (g : Gt t l h s r) : Gs l h s r := by
  have : (1000 : Int) < 2 ^ 200 := by decide +kernel
  exact ⟨g.l0, g.lh, by have := g.ht; have := g.tb; omega, g.r0, g.r1, by have := g.sb; omega⟩
theorem e_guard {k : Nat} {m : MO} (hp : Pool k m) (hk : k < 2 ^ 40) (t : Int) (t0 : 1 ≤ t) (tb : t ≤ 100) : ∃ l h s r m', m__law_guard [.bor 0, .val (.int t)] [m] = .ok (gt l h s r) [m'] ∧ Gt t l h s r ∧ Pool (k + 7) m' := by
  obtain ⟨d1, m1, e1, a1, z1, p1⟩ := e_pdraw hp (by omega) (t + 1) (by omega) (sm (by omega) (by omega))
  obtain ⟨d2, m2, e2, a2, z2, p2⟩ := e_pdraw p1 (by omega) 2 (by decide) (by decide +kernel)
  obtain ⟨l, hl, e3⟩ := atI_mem [0, d1] d2 a2 (by simpa using z2)
  have l0 : 0 ≤ l ∧ l ≤ t := by simp at hl; omega
  obtain ⟨d3, m3, e4, a3, z3, p3⟩ := e_pdraw p2 (by omega) (t - l + 1) (by omega) (sm (by omega) (by omega))
  obtain ⟨d4, m4, e5, a4, z4, p4⟩ := e_pdraw p3 (by omega) 2 (by decide) (by decide +kernel)
  obtain ⟨h, hh, e6⟩ := atI_mem [t, l + d3] d4 a4 (by simpa using z4)
  have h0 : l ≤ h ∧ h ≤ t := by simp at hh; omega
  obtain ⟨d5, m5, e7, a5, z5, p5⟩ := e_pdraw p4 (by omega) 24 (by decide) (by decide +kernel)
  obtain ⟨d6, m6, e8, a6, z6, p6⟩ := e_pdraw p5 (by omega) 10 (by decide) (by decide +kernel)
  obtain ⟨s, hs, e9⟩ := atI_mem [1, 1, 1, 2, 3, 4, 5, 7, 33, 8 + d5] d6 a6 (by simpa using z6)
  have s0 : 1 ≤ s ∧ s ≤ 33 := by simp at hs; omega
  obtain ⟨d7, m7, e10, a7, z7, p7⟩ := e_pdraw p6 (by omega) s (by omega) (sm (by omega) (by omega))
  refine ⟨l, h, s, d7, m7, ?_, ⟨t0, tb, l0.1, h0.1, h0.2, a7, z7, s0.2⟩, p7⟩
  simp only [List.map_cons, List.map_nil] at e3 e6 e9
  clear hp hk p1 p2 p3 p4 p5 p6 p7 a1 a2 a3 a4 a5 a6 a7 z1 z2 z3 z4 z5 z6 z7 hl l0 hh h0 hs s0 t0 tb
  have t1 : q__law_guard_1 ⟨[some (.bor 0), some (.val (.int t)), none, none, none], [m]⟩ = .nx ⟨[some (.bor 0), some (.val (.int t)), some (.val (.int l)), none, none], [m2]⟩ := by
    clear e4 e5 e6 e7 e8 e9 e10
    unfold q__law_guard_1
    iterate 6 (walk_at "ev"; try walk_at "evs")
  have t2 : q__law_guard_2 ⟨[some (.bor 0), some (.val (.int t)), some (.val (.int l)), none, none], [m2]⟩ = .nx ⟨[some (.bor 0), some (.val (.int t)), some (.val (.int l)), some (.val (.int h)), none], [m4]⟩ := by
    clear e1 e2 e3 e7 e8 e9 e10 t1
    unfold q__law_guard_2
    iterate 6 (walk_at "ev"; try walk_at "evs")
  have t3 : q__law_guard_3 ⟨[some (.bor 0), some (.val (.int t)), some (.val (.int l)), some (.val (.int h)), none], [m4]⟩ = .nx ⟨[some (.bor 0), some (.val (.int t)), some (.val (.int l)), some (.val (.int h)), some (.val (.int s))], [m6]⟩ := by
    clear e1 e2 e3 e4 e5 e6 e10 t1 t2
    unfold q__law_guard_3
    iterate 6 (walk_at "ev"; try walk_at "evs")
  have t4 : q__law_guard_4 ⟨[some (.bor 0), some (.val (.int t)), some (.val (.int l)), some (.val (.int h)), some (.val (.int s))], [m6]⟩ = .rt (gt l h s d7) ⟨[some (.bor 0), some (.val (.int t)), some (.val (.int l)), some (.val (.int h)), some (.val (.int s))], [m7]⟩ := by
    clear e1 e2 e3 e4 e5 e6 e7 e8 e9 t1 t2 t3
    unfold q__law_guard_4
    iterate 6 (walk_at "ev"; try walk_at "evs")
  unfold m__law_guard
  rw [g__law_guard_eq]
  simp only [mOf, start0, List.map_cons, List.map_nil, List.length_cons, List.length_nil, Nat.reduceAdd, Nat.reduceSub, List.replicate, List.cons_append, List.nil_append]
  rw [seq_nx t1, seq_nx t2, seq_nx t3, seq_rt t4]
  rfl
abbrev ils (l : List Int) : PV := .lst (l.map PV.int)
def keepI (p : Int → Bool) : PV → Option PV := fun v => match v with | .int x => if p x = true then some v else none | _ => none
theorem keep_map (p : Int → Bool) (l : List Int) : (l.map PV.int).filterMap (keepI p) = (l.filter p).map PV.int := by
  induction l with
  | nil => rfl
  | cons x t ih =>
    rw [List.map_cons, List.filterMap_cons, ih, List.filter_cons]
    by_cases hx : p x = true <;> simp [hx, keepI]
theorem seqI_len (l h : Int) : (seqI l h).length = (h - l).toNat := by simp [seqI]
theorem listed_le {t l h s r : Int} (g : Gt t l h s r) : (listed l h s r).length ≤ 100 := by
  have h1 : (listed l h s r).length ≤ (seqI l h).length := List.length_filter_le _ _
  rw [seqI_len] at h1
  have := g.ht; have := g.tb; have := g.l0
  omega
theorem e_own {t l h s r : Int} (g : Gt t l h s r) : m__law_own [.val (gt l h s r)] [] = .ok (ils (listed l h s r)) [] := by
  have hs := g.gs.s0
  have key := compL_map (vs := [5]) (a := l__law_own_1c) (ft := l__law_own_1d) (fe := l__law_own_1e) (s := ⟨[some (.val (gt l h s r)), some (.val (.int l)), some (.val (.int h)), some (.val (.int s)), some (.val (.int r)), none], []⟩) (keepI fun x => decide (x % s = r)) (rng l (h - l).toNat) [] (by have := g.ht; have := g.tb; have := g.l0; rw [rng_length, List.length_nil]; omega) ?_
  · rw [rng_seqI, keep_map, List.nil_append] at key
    rw [← rng_seqI] at key
    have t1 : q__law_own_1 ⟨[some (.val (gt l h s r)), none, none, none, none, none], []⟩ = .nx ⟨[some (.val (gt l h s r)), some (.val (.int l)), some (.val (.int h)), some (.val (.int s)), some (.val (.int r)), none], []⟩ := rfl
    have t2 : q__law_own_2 ⟨[some (.val (gt l h s r)), some (.val (.int l)), some (.val (.int h)), some (.val (.int s)), some (.val (.int r)), none], []⟩ = .rt (ils (listed l h s r)) ⟨[some (.val (gt l h s r)), some (.val (.int l)), some (.val (.int h)), some (.val (.int s)), some (.val (.int r)), none], []⟩ := by
      clear hs g t1
      unfold q__law_own_2
      iterate 3 (walk_at "ev"; try walk_at "evs")
      try rfl
    unfold m__law_own
    rw [g__law_own_eq]
    simp only [mOf, start0, List.map_cons, List.map_nil, List.length_cons, List.length_nil, Nat.reduceAdd, Nat.reduceSub, List.replicate, List.cons_append, List.nil_append]
    rw [seq_nx t1, seq_rt t2]
    rfl
  · rw [rng_seqI]
    intro p hp
    obtain ⟨x, hx, rfl⟩ := List.mem_map.mp hp
    refine ⟨_, rfl, ?_⟩
    have fm : x.fmod s = x % s := Int.fmod_eq_emod_of_nonneg _ (by omega)
    have zs : (s = 0) = False := by simp; omega
    have en := eqB_int (x % s) r
    by_cases hx : x % s = r
    · left
      have be : (x % s == r) = true := by simpa using hx
      refine ⟨⟨[some (.val (gt l h s r)), some (.val (.int l)), some (.val (.int h)), some (.val (.int s)), some (.val (.int r)), some (.val (.int x))], []⟩, .int x, ⟨[some (.val (gt l h s r)), some (.val (.int l)), some (.val (.int h)), some (.val (.int s)), some (.val (.int r)), some (.val (.int x))], []⟩, ?_, rfl, rfl, by simp [keepI, hx]⟩
      clear hx hp hs g
      unfold l__law_own_1d
      iterate 4 (walk_at "ev"; try walk_at "evs")
    · right
      have be : (x % s == r) = false := by simpa using hx
      refine ⟨⟨[some (.val (gt l h s r)), some (.val (.int l)), some (.val (.int h)), some (.val (.int s)), some (.val (.int r)), some (.val (.int x))], []⟩, ?_, rfl, by simp [keepI, hx]⟩
      clear hx hp hs g
      unfold l__law_own_1d
      iterate 4 (walk_at "ev"; try walk_at "evs")
theorem compN_map {vs : List Nat} {a : PV → Stt → Option Stt} {s : Stt} (h : ∀ p, ∃ s1, a p s = some s1 ∧ wipeS vs s1 = s) : ∀ (l : List PV) (acc : List (List PV)), acc.length + l.length ≤ 16777216 → compN vs a l acc s = .ok (acc ++ l.map fun _ => []) s
  | [], acc, _ => by simp [compN]
  | p :: r, acc, hl => by
    rw [List.length_cons] at hl
    obtain ⟨s1, e1, e2⟩ := h p
    rw [compN_cons _ _ _ _ _ _ _ e1, if_pos (by omega), e2, compN_map h r _ (by rw [List.length_append, List.length_singleton]; omega)]
    simp
theorem size39 {t W : Int} (hW : 1 ≤ W) (ht : 1 ≤ t) : Builtin.Range.rangeSize 0 t W = (t + W - 1) / W := by
  unfold Builtin.Range.rangeSize
  rw [if_pos (by omega), if_pos (by omega), show t + W - 1 = (t - 0 - 1) + W * 1 by omega, Int.add_mul_ediv_left _ _ (by omega)]
theorem nw_le {t W : Int} (hW : 1 ≤ W) (ht : 1 ≤ t) : 1 ≤ (t + W - 1) / W ∧ (t + W - 1) / W ≤ t := by
  constructor
  · exact (Int.le_ediv_iff_mul_le (by omega)).mpr (by omega)
  · have := Int.mul_le_mul_of_nonneg_right (show (1 : Int) ≤ W by omega) (show 0 ≤ t by omega)
    have q : (t + W - 1) / W < t + 1 := Int.ediv_lt_of_lt_mul (by omega) (by rw [Int.add_mul, Int.mul_comm t W]; omega)
    omega
theorem small39 {t W : Int} (hW : 1 ≤ W ∧ W ≤ 32) (ht : 1 ≤ t ∧ t ≤ 100) : okR3 0 t W = true := by
  obtain ⟨a, b⟩ := nw_le hW.1 ht.1
  unfold okR3
  refine decide_eq_true ⟨by omega, by omega, ?_⟩
  unfold Builtin.Range.small
  rw [size39 hW.1 ht.1]
  simp only [Builtin.Range.rangeFitsLong, Bool.and_eq_true, Bool.or_eq_true, decide_eq_true_eq, beq_iff_eq]
  rw [if_pos (show W > 0 by omega)]
  simp only [Bool.and_eq_true, decide_eq_true_eq]
  omega
/-- the lanes so far, wave by wave -/
def sofar (L : List Int) (W : Int) (n : Nat) : List (List PV) := (List.range n).map fun j : Nat => (L.filter fun x => decide (x / W = (j : Int))).map PV.int
theorem sofar_nil (W : Int) (n : Nat) : sofar [] W n = (List.range n).map fun _ => [] := rfl
theorem set_range {α : Type} {n m : Nat} {f g : Nat → α} {v : α} (hv : g m = v) (h : ∀ j, j ≠ m → g j = f j) : ((List.range n).map f).set m v = (List.range n).map g := by
  refine List.ext_getElem? fun i => ?_
  by_cases hi : m = i
  · subst hi
    by_cases hn : m < n
    · rw [List.getElem?_set_self (by simpa using hn), List.getElem?_map, List.getElem?_range hn, ← hv]; rfl
    · rw [List.getElem?_eq_none (by simp; omega), List.getElem?_eq_none (by simp; omega)]
  · rw [List.getElem?_set_ne hi, List.getElem?_map, List.getElem?_map]
    cases e : (List.range n)[i]? with
    | none => rfl
    | some j =>
      have : j = i := by
        have := (List.getElem?_eq_some_iff.mp e).2
        simpa using this.symm
      subst this
      show some (f j) = some (g j)
      rw [h j (fun z => hi z.symm)]
theorem sofar_snoc (L : List Int) (W : Int) (n : Nat) (x : Int) (hx : 0 ≤ x / W) : (sofar L W n).set (x / W).toNat (((L.filter fun y => decide (y / W = (((x / W).toNat : Nat) : Int))).map PV.int) ++ [.int x]) = sofar (L ++ [x]) W n := by
  unfold sofar
  refine set_range ?_ fun j hj => ?_
  · show ((L ++ [x]).filter _).map PV.int = _
    rw [List.filter_append, List.map_append, List.filter_cons, List.filter_nil]
    rw [if_pos (by rw [Int.toNat_of_nonneg hx]; exact decide_eq_true rfl)]
    rfl
  · show ((L ++ [x]).filter _).map PV.int = _
    rw [List.filter_append, List.map_append, List.filter_cons, List.filter_nil, if_neg (by rw [decide_eq_true_iff]; omega)]
    simp
abbrev stW (g t W : PV) (o : Option SV) (x : Option SV) : Stt := ⟨[some (.val g), some (.val t), some (.val W), o, x, none], []⟩
theorem appN_step {g t : PV} {W x : Int} {ls : List (List PV)} {l : List PV} {m : Nat} (hz : (W = 0) = False) (hd : okDiv W = true) (hf : x.fdiv W = x / W) (hi : ixN ls.length (x / W) = some m) (hl : ls[m]? = some l) (hn : l.length < 16777216) :
    l__law_waves_1c (stW g t (.int W) (some (.own (.lls ls))) (some (.val (.int x)))) = .nx (stW g t (.int W) (some (.own (.lls (ls.set m (l ++ [.int x]))))) (some (.val (.int x)))) := by
  have e : eBin pFdiv (eVar 4) (eVar 2) (stW g t (.int W) (some (.own (.lls ls))) (some (.val (.int x)))) = .ok (.int (x / W)) (stW g t (.int W) (some (.own (.lls ls))) (some (.val (.int x)))) := by
    iterate 3 (walk_at "ev"; try walk_at "evs")
  have gm : getM (stW g t (.int W) (some (.own (.lls ls))) (some (.val (.int x)))) 3 = some (.inl 3, .lls ls) := rfl
  have gr : (stW g t (.int W) (some (.own (.lls ls))) (some (.val (.int x)))).ro[4]? = some (some (.val (.int x))) := rfl
  unfold l__law_waves_1c l__law_waves_1c_s1
  simp only [gSeq, gNop, gAppN, gm, e, gr, Option.elim_some, Res.fl, hi, hl]
  rw [if_pos hn]
  rfl
theorem e_lwaves {t l h s r W : Int} (g : Gt t l h s r) (hW : 1 ≤ W ∧ W ≤ 32) : m__law_waves [.val (gt l h s r), .val (.int t), .val (.int W)] [] = .ok (.lst ((List.range (nw t W)).map fun j : Nat => ils (rowOf l h s r W (j : Int)))) [] := by
  have ht : 1 ≤ t ∧ t ≤ 100 := ⟨g.t0, g.tb⟩
  obtain ⟨n1, n2⟩ := nw_le hW.1 ht.1
  have ll := listed_le g
  have eo := e_own g
  have kz : (W = 0) = False := by simp; omega
  have kd := okDiv32 hW
  have sz := size39 hW.1 ht.1
  have sm3 := small39 hW ht
  have rg : okR3 0 t W = true ∧ 0 ≤ Builtin.Range.rangeSize 0 t W := ⟨sm3, by rw [sz]; omega⟩
  have c0 := compN_map (vs := [5]) (a := aName 5) (s := stW (gt l h s r) (.int t) (.int W) none none) (fun p => ⟨_, rfl, rfl⟩) (rngC 0 W (nw t W)) [] (by unfold rngC nw; simp; omega)
  have t1 : q__law_waves_1 (stW (gt l h s r) (.int t) (.int W) none none) = .nx (stW (gt l h s r) (.int t) (.int W) (some (.own (.lls (sofar [] W (nw t W))))) none) := by
    have er : iRange3 (aCons (eC (.int 0)) (aCons (eVar 1) (aCons (eVar 2) aNil))) (stW (gt l h s r) (.int t) (.int W) none none) = .ok (rngC 0 W (nw t W)) (stW (gt l h s r) (.int t) (.int W) none none) := by
      show (if okR3 0 t W = true ∧ 0 ≤ Builtin.Range.rangeSize 0 t W then Res.ok (rngC 0 W (Builtin.Range.rangeSize 0 t W).toNat) _ else Res.stuck) = _
      rw [if_pos rg, sz]; rfl
    have em : (rngC 0 W (nw t W)).map (fun _ => ([] : List PV)) = sofar [] W (nw t W) := by unfold rngC sofar; simp
    unfold q__law_waves_1
    unfold gAsgO oCompN
    rw [er]
    show ((((noEx (compN [5] (aName 5) (rngC 0 W (nw t W)) [] (stW (gt l h s r) (.int t) (.int W) none none))).bind fun acc s2 => Res.ok (MO.lls acc) (backS [5] (stW (gt l h s r) (.int t) (.int W) none none) s2)) : Res MO).fl fun m s1 => if 3 < s1.ro.length then Fl.nx (setO 3 m s1) else Fl.stuck) = _
    rw [c0, em]
    rfl
  obtain ⟨s2, e2, x, rfl⟩ := forL_inv (a := l__law_waves_1b) (b := l__law_waves_1c) (fun i st => ∃ x, st = stW (gt l h s r) (.int t) (.int W) (some (.own (.lls (sofar ((listed l h s r).take i) W (nw t W))))) x) ((listed l h s r).map PV.int) 0 (stW (gt l h s r) (.int t) (.int W) (some (.own (.lls (sofar [] W (nw t W))))) none) ⟨none, by simp⟩ (by
    rintro i p st hp ⟨x, rfl⟩
    rw [List.getElem?_map] at hp
    cases ex : (listed l h s r)[i]? with
    | none => rw [ex] at hp; cases hp
    | some y =>
      rw [ex] at hp
      cases hp
      have my := mem_listed.mp (List.mem_of_getElem? ex)
      have hy0 : 0 ≤ y := by have := g.l0; omega
      have d0 : 0 ≤ y / W := Int.ediv_nonneg hy0 (by omega)
      have d1 : (y / W).toNat < nw t W := by
        have a := nw_all (t := t) (W := W) (by omega) (by omega)
        have b : y / W < (nw t W : Int) := Int.ediv_lt_of_lt_mul (by omega) (by rw [Int.mul_comm]; have := g.ht; omega)
        omega
      have fd : y.fdiv W = y / W := Int.fdiv_eq_ediv_of_nonneg _ (by omega)
      rw [Nat.zero_add]
      have tk : (listed l h s r).take (i + 1) = (listed l h s r).take i ++ [y] := by
        rw [List.take_add_one, ex]; rfl
      refine ⟨_, rfl, _, .inl (appN_step (ls := sofar ((listed l h s r).take i) W (nw t W)) (m := (y / W).toNat) (l := (((listed l h s r).take i).filter fun z => decide (z / W = (((y / W).toNat : Nat) : Int))).map PV.int) kz kd fd ?_ ?_ ?_), some (.val (.int y)), ?_⟩
      · unfold ixN sofar
        rw [List.length_map, List.length_range, if_pos d0, if_pos (by omega)]
      · unfold sofar
        rw [List.getElem?_map, List.getElem?_range d1]; rfl
      · rw [List.length_map]
        have a := List.length_filter_le (fun z => decide (z / W = (((y / W).toNat : Nat) : Int))) ((listed l h s r).take i)
        have b := List.length_take_le i (listed l h s r)
        have c : ((listed l h s r).take i).length ≤ (listed l h s r).length := by rw [List.length_take]; omega
        omega
      · rw [sofar_snoc _ _ _ _ d0, tk])
  rw [List.length_map, Nat.zero_add, List.take_length] at e2
  have t2 : q__law_waves_2 (stW (gt l h s r) (.int t) (.int W) (some (.own (.lls (sofar [] W (nw t W))))) none) = .nx (stW (gt l h s r) (.int t) (.int W) (some (.own (.lls (sofar (listed l h s r) W (nw t W))))) x) := by
    clear hW ht n1 n2 ll kz kd sz sm3 rg c0 t1
    unfold q__law_waves_2
    generalize sofar [] W (nw t W) = a1 at *
    generalize sofar (listed l h s r) W (nw t W) = a2 at *
    iterate 4 (walk_at "ev"; try walk_at "evs")
  have es : (sofar (listed l h s r) W (nw t W)).map PV.lst = (List.range (nw t W)).map fun j : Nat => ils (rowOf l h s r W (j : Int)) := by
    unfold sofar
    rw [List.map_map]
    refine List.map_congr_left fun j _ => ?_
    show PV.lst (((listed l h s r).filter fun x => decide (x / W = (j : Int))).map PV.int) = _
    rw [row_eq (by omega)]
    rfl
  have t3 : q__law_waves_3 (stW (gt l h s r) (.int t) (.int W) (some (.own (.lls (sofar (listed l h s r) W (nw t W))))) x) = .nx (stW (gt l h s r) (.int t) (.int W) (some (.val (.lst ((List.range (nw t W)).map fun j : Nat => ils (rowOf l h s r W (j : Int)))))) x) := by
    rw [← es]; rfl
  have t4 : q__law_waves_4 (stW (gt l h s r) (.int t) (.int W) (some (.val (.lst ((List.range (nw t W)).map fun j : Nat => ils (rowOf l h s r W (j : Int)))))) x) = .rt (.lst ((List.range (nw t W)).map fun j : Nat => ils (rowOf l h s r W (j : Int)))) (stW (gt l h s r) (.int t) (.int W) (some (.val (.lst ((List.range (nw t W)).map fun j : Nat => ils (rowOf l h s r W (j : Int)))))) x) := rfl
  unfold m__law_waves
  rw [g__law_waves_eq]
  simp only [mOf, start0, List.map_cons, List.map_nil, List.length_cons, List.length_nil, Nat.reduceAdd, Nat.reduceSub, List.replicate, List.cons_append, List.nil_append]
  rw [seq_nx t1, seq_nx t2, seq_nx t3, seq_rt t4]
  rfl
end K39

/-! K39_R: one kernel of k39, a statement, a length of waves. -/
namespace K39
open PySem PySem.Spec PyProof.Rows L2 PL PN PM
local macro_rules | `(tactic| walk_at "ev") => `(tactic| try simp only [mOf, endF, start0, gSeq, gNop, gAsg, gRet, gRetO, gAsgO, gDrop, gIf, gOpt, gPar, gPar3, gAug, aName, asNil, asCons, aTup, aLst, setV, setO, eVar, eC, eBin, eUn, eTup, aNil, aCons, oLst, frz, eCall, oCall, avN, avK, permL, lNil, lPv, lSl, tOf, tTru, tNt, tAn, tOrr, eIf, eAn, eOr, eNt, eChain, eCallB, eIxM, gSetIx, getM, pTru, pAdd, pSub, pMul, pFdiv, pMod, pPow, pNeg, pLt, pLe, pGt, pGe, pIs, pIsNot, pAddI, pIx, pLen, pAbs, pMax2, pMin2, Res.bind_ok, Res.bind_ex, Res.bind_stuck, Res.fl_ok, Res.fl_ex, Res.fl_stuck, Res.opt_some, Res.opt_none, lowerA, keyOf, getK, getAll, setAll, setK, distinct, List.map_cons, List.map_nil, List.length_cons, List.length_nil, List.replicate, List.cons_append, List.nil_append, List.append_nil, List.getElem?_cons_zero, List.getElem?_cons_succ, List.getElem?_nil, List.set_cons_zero, List.set_cons_succ, List.filterMap_cons, List.filterMap_nil, Option.bind_some, Option.map_some, Option.elim_some, if_true, if_false, Nat.reduceAdd, Nat.reduceSub, Nat.reduceEqDiff, Nat.reduceLeDiff, ↓reduceIte, Bool.false_eq_true, at0, at1, at2, at3, pEq, pNe, eqB_int, Option.some.injEq, decide_true, decide_false, not_true_eq_false, not_false_eq_true, Bool.and_true, ne_eq, reduceCtorEq, Bool.true_eq_false, Bool.not_true, Bool.not_false, frz, noEx, wipeS, wipeR, backS, backR, keepV, oComp, gFor, iAny, iRange1, iRange2, iRange3, iRangeW1, iRangeW2, eCallQ, oRgW2, oRgW, pInt1, iEnumQ, eDct, iTxt, eFld, eMake, gSetFld, eFldM, eTupV, putP, eLenSet, gFrz, Nat.reduceLT, oRg2, oRg1, oRg, tYesD, pIn, pNotIn, eSl, pNo, pSo, forL_nil, gApp, gParO, List.not_mem_nil, List.not_mem_nil])
local macro_rules | `(tactic| walk_at "evs") => `(tactic| simp only [*, mOf, endF, start0, gSeq, gNop, gAsg, gRet, gRetO, gAsgO, gDrop, gIf, gOpt, gPar, gPar3, gAug, aName, asNil, asCons, aTup, aLst, setV, setO, eVar, eC, eBin, eUn, eTup, aNil, aCons, oLst, frz, eCall, oCall, avN, avK, permL, lNil, lPv, lSl, tOf, tTru, tNt, tAn, tOrr, eIf, eAn, eOr, eNt, eChain, eCallB, eIxM, gSetIx, getM, pTru, pAdd, pSub, pMul, pFdiv, pMod, pPow, pNeg, pLt, pLe, pGt, pGe, pIs, pIsNot, pAddI, pIx, pLen, pAbs, pMax2, pMin2, Res.bind_ok, Res.bind_ex, Res.bind_stuck, Res.fl_ok, Res.fl_ex, Res.fl_stuck, Res.opt_some, Res.opt_none, lowerA, keyOf, getK, getAll, setAll, setK, distinct, List.map_cons, List.map_nil, List.length_cons, List.length_nil, List.replicate, List.cons_append, List.nil_append, List.append_nil, List.getElem?_cons_zero, List.getElem?_cons_succ, List.getElem?_nil, List.set_cons_zero, List.set_cons_succ, List.filterMap_cons, List.filterMap_nil, Option.bind_some, Option.map_some, Option.elim_some, if_true, if_false, Nat.reduceAdd, Nat.reduceSub, Nat.reduceEqDiff, Nat.reduceLeDiff, ↓reduceIte, Bool.false_eq_true, at0, at1, at2, at3, pEq, pNe, eqB_int, Option.some.injEq, decide_true, decide_false, not_true_eq_false, not_false_eq_true, Bool.and_true, ne_eq, reduceCtorEq, Bool.true_eq_false, Bool.not_true, Bool.not_false, frz, noEx, wipeS, wipeR, backS, backR, keepV, oComp, gFor, iAny, iRange1, iRange2, iRange3, iRangeW1, iRangeW2, eCallQ, oRgW2, oRgW, pInt1, iEnumQ, eDct, iTxt, eFld, eMake, gSetFld, eFldM, eTupV, putP, eLenSet, gFrz, Nat.reduceLT, oRg2, oRg1, oRg, tYesD, pIn, pNotIn, eSl, pNo, pSo, forL_nil, gApp, gParO, List.not_mem_nil, List.not_mem_nil, eq_self, not_true_eq_false, not_false_eq_true, ix30, ix31, ix32, Bool.and_self, and_self, and_true, true_and])

theorem eqB2 (a b : Int) : pEqB (.lst [.int a, .int b]) (.lst [.int a, .int b]) = some true := by
  have := eqB_ints [a, b] [a, b]
  simpa using this
theorem enumP_range (n : Nat) (f : Nat → PV) : enumP ((List.range n).map f) = (List.range n).map fun j : Nat => .tup [.int j, f j] := by
  unfold enumP zipP
  rw [List.length_map, List.length_range]
  refine List.ext_getElem? fun i => ?_
  rw [List.getElem?_zipWith, List.getElem?_map, List.getElem?_map, List.getElem?_map]
  cases (List.range n)[i]? <;> rfl
abbrev rows (l h s r t W : Int) : List PV := ((List.range (nw t W)).map fun j : Nat => ils (rowOf l h s r W (j : Int)))
def fullF (t W : Int) : PV → Option PV := fun p => match p with | .tup [.int j, .lst q] => if (q.length : Int) = min W (t - W * j) then some (.lst q) else none | _ => none
def anyF : PV → Option PV := fun p => match p with | .lst q => if q.length ≠ 0 then some (.lst q) else none | _ => none
theorem full_len (l h s r t W : Int) : ((enumP (rows l h s r t W)).filterMap (fullF t W)).length = (List.range (nw t W)).countP fun j : Nat => decide (((rowOf l h s r W (j : Int)).length : Int) = min W (t - W * (j : Int))) := by
  unfold rows
  rw [enumP_range, List.filterMap_map, List.length_filterMap_eq_countP]
  congr 1
  funext j
  simp only [Function.comp, fullF, List.length_map]
  split <;> simp_all
theorem any_len (l h s r t W : Int) : ((rows l h s r t W).filterMap anyF).length = (List.range (nw t W)).countP fun j : Nat => decide ((rowOf l h s r W (j : Int)).length ≠ 0) := by
  unfold rows
  rw [List.filterMap_map, List.length_filterMap_eq_countP]
  congr 1
  funext j
  simp only [Function.comp, anyF, List.length_map]
  split <;> simp_all
section
variable {t l h s r W i : Int} (g : Gt t l h s r) (hW : 1 ≤ W ∧ W ≤ 32)
include g hW
theorem mulb (j : Nat) (hj : j < nw t W) : okMul W (j : Int) = true := by
  have a := nw_le hW.1 g.t0
  have b := g.tb
  unfold nw at hj
  exact okMul_of (a := 40) (b := 40) (Nat.lt_of_le_of_lt (m := 32) (by omega) (by decide +kernel)) (Nat.lt_of_le_of_lt (m := 100) (by omega) (by decide +kernel)) (by decide) (by decide) (by decide)
theorem e_r1 (kn : PV) : q__law_right_1 ⟨[some (.val (kn)), some (.val (.int i)), some (.val (gt l h s r)), some (.val (.int t)), some (.val (.int W)), none, none, none, none, none, none, none], []⟩ = .nx ⟨[some (.val (kn)), some (.val (.int i)), some (.val (gt l h s r)), some (.val (.int t)), some (.val (.int W)), some (.val (.lst (rows l h s r t W))), none, none, none, none, none, none], []⟩ := by
  have c := e_lwaves g hW
  clear g hW
  unfold q__law_right_1
  iterate 4 (walk_at "ev"; try walk_at "evs")
theorem e_r2 (kn : PV) : q__law_right_2 ⟨[some (.val (kn)), some (.val (.int i)), some (.val (gt l h s r)), some (.val (.int t)), some (.val (.int W)), some (.val (.lst (rows l h s r t W))), none, none, none, none, none, none], []⟩ = .nx ⟨[some (.val (kn)), some (.val (.int i)), some (.val (gt l h s r)), some (.val (.int t)), some (.val (.int W)), some (.val (.lst (rows l h s r t W))), some (.val (.lst ((enumP (rows l h s r t W)).filterMap (fullF t W)))), none, none, none, none, none], []⟩ := by
  have n2 := nw_le hW.1 g.t0
  have nn : nw t W ≤ 100 := by have := g.tb; unfold nw; omega
  have e := compL_map (vs := [10, 11]) (a := l__law_right_1c) (ft := l__law_right_1d) (fe := l__law_right_1e) (s := ⟨[some (.val (kn)), some (.val (.int i)), some (.val (gt l h s r)), some (.val (.int t)), some (.val (.int W)), some (.val (.lst (rows l h s r t W))), none, none, none, none, none, none], []⟩) (fullF t W) (enumP (rows l h s r t W)) [] (by
    unfold rows
    rw [enumP_range, List.length_map, List.length_range, List.length_nil]; omega) (by
    intro p hp
    unfold rows at hp
    rw [enumP_range] at hp
    obtain ⟨j, hj, rfl⟩ := List.mem_map.mp hp
    have hj : j < nw t W := by simpa using hj
    have km := mulb g hW j hj
    have mn : (if t - W * (j : Int) < W then t - W * (j : Int) else W) = min W (t - W * (j : Int)) := by split <;> omega
    have en := eqB_int ((rowOf l h s r W (j : Int)).length : Int) (min W (t - W * (j : Int)))
    have hl : ((rowOf l h s r W (j : Int)).map PV.int).length = (rowOf l h s r W (j : Int)).length := List.length_map ..
    refine ⟨_, rfl, ?_⟩
    by_cases z : ((rowOf l h s r W (j : Int)).length : Int) = min W (t - W * (j : Int))
    · left
      have be : (((rowOf l h s r W (j : Int)).length : Int) == min W (t - W * (j : Int))) = true := by simpa using z
      refine ⟨⟨[some (.val (kn)), some (.val (.int i)), some (.val (gt l h s r)), some (.val (.int t)), some (.val (.int W)), some (.val (.lst (rows l h s r t W))), none, none, none, none, some (.val (.int (j : Int))), some (.val (ils (rowOf l h s r W (j : Int))))], []⟩, ils (rowOf l h s r W (j : Int)), ⟨[some (.val (kn)), some (.val (.int i)), some (.val (gt l h s r)), some (.val (.int t)), some (.val (.int W)), some (.val (.lst (rows l h s r t W))), none, none, none, none, some (.val (.int (j : Int))), some (.val (ils (rowOf l h s r W (j : Int))))], []⟩, ?_, rfl, rfl, ?_⟩
      · clear g hW n2 nn hp hj z
        unfold l__law_right_1d
        generalize min W (t - W * (j : Int)) = mm at *
        iterate 4 (walk_at "ev"; try walk_at "evs")
      · show (if ((((rowOf l h s r W (j : Int)).map PV.int).length : Int)) = min W (t - W * (j : Int)) then some (ils (rowOf l h s r W (j : Int))) else none) = _
        rw [hl, if_pos z]
    · right
      have be : (((rowOf l h s r W (j : Int)).length : Int) == min W (t - W * (j : Int))) = false := by simpa using z
      refine ⟨⟨[some (.val (kn)), some (.val (.int i)), some (.val (gt l h s r)), some (.val (.int t)), some (.val (.int W)), some (.val (.lst (rows l h s r t W))), none, none, none, none, some (.val (.int (j : Int))), some (.val (ils (rowOf l h s r W (j : Int))))], []⟩, ?_, rfl, ?_⟩
      · clear g hW n2 nn hp hj z
        unfold l__law_right_1d
        generalize min W (t - W * (j : Int)) = mm at *
        iterate 4 (walk_at "ev"; try walk_at "evs")
      · show (if ((((rowOf l h s r W (j : Int)).map PV.int).length : Int)) = min W (t - W * (j : Int)) then some (ils (rowOf l h s r W (j : Int))) else none) = _
        rw [hl, if_neg z])
  rw [List.nil_append] at e
  clear g hW n2 nn
  unfold q__law_right_2
  generalize (enumP (rows l h s r t W)).filterMap (fullF t W) = FL at *
  generalize rows l h s r t W = R at *
  iterate 4 (walk_at "ev"; try walk_at "evs")
theorem e_r3 (kn : PV) (FL : List PV) : q__law_right_3 ⟨[some (.val (kn)), some (.val (.int i)), some (.val (gt l h s r)), some (.val (.int t)), some (.val (.int W)), some (.val (.lst (rows l h s r t W))), some (.val (.lst FL)), none, none, none, none, none], []⟩ = .nx ⟨[some (.val (kn)), some (.val (.int i)), some (.val (gt l h s r)), some (.val (.int t)), some (.val (.int W)), some (.val (.lst (rows l h s r t W))), some (.val (.lst FL)), some (.val (.lst [.int (((rows l h s r t W).filterMap anyF).length : Int), .int (FL.length : Int)])), none, none, none, none], []⟩ := by
  have n2 := nw_le hW.1 g.t0
  have nn : nw t W ≤ 100 := by have := g.tb; unfold nw; omega
  have e := compL_map (vs := [11]) (a := l__law_right_2c) (ft := l__law_right_2d) (fe := l__law_right_2e) (s := ⟨[some (.val (kn)), some (.val (.int i)), some (.val (gt l h s r)), some (.val (.int t)), some (.val (.int W)), some (.val (.lst (rows l h s r t W))), some (.val (.lst FL)), none, none, none, none, none], []⟩) anyF (rows l h s r t W) [] (by
    unfold rows
    rw [List.length_map, List.length_range, List.length_nil]; omega) (by
    intro p hp
    unfold rows at hp
    obtain ⟨j, hj, rfl⟩ := List.mem_map.mp hp
    have en := eqB_ints (rowOf l h s r W (j : Int)) []
    rw [List.map_nil] at en
    have hl : ((rowOf l h s r W (j : Int)).map PV.int).length = (rowOf l h s r W (j : Int)).length := List.length_map ..
    refine ⟨_, rfl, ?_⟩
    by_cases z : rowOf l h s r W (j : Int) = []
    · right
      rw [decide_eq_true z] at en
      refine ⟨⟨[some (.val (kn)), some (.val (.int i)), some (.val (gt l h s r)), some (.val (.int t)), some (.val (.int W)), some (.val (.lst (rows l h s r t W))), some (.val (.lst FL)), none, none, none, none, some (.val (ils (rowOf l h s r W (j : Int))))], []⟩, ?_, rfl, ?_⟩
      · clear g hW n2 nn hp hj z
        unfold l__law_right_2d
        iterate 4 (walk_at "ev"; try walk_at "evs")
      · show (if ((rowOf l h s r W (j : Int)).map PV.int).length ≠ 0 then some (ils (rowOf l h s r W (j : Int))) else none) = _
        rw [hl, z, if_neg (by simp)]
    · left
      rw [decide_eq_false z] at en
      refine ⟨⟨[some (.val (kn)), some (.val (.int i)), some (.val (gt l h s r)), some (.val (.int t)), some (.val (.int W)), some (.val (.lst (rows l h s r t W))), some (.val (.lst FL)), none, none, none, none, some (.val (ils (rowOf l h s r W (j : Int))))], []⟩, ils (rowOf l h s r W (j : Int)), ⟨[some (.val (kn)), some (.val (.int i)), some (.val (gt l h s r)), some (.val (.int t)), some (.val (.int W)), some (.val (.lst (rows l h s r t W))), some (.val (.lst FL)), none, none, none, none, some (.val (ils (rowOf l h s r W (j : Int))))], []⟩, ?_, rfl, rfl, ?_⟩
      · clear g hW n2 nn hp hj z
        unfold l__law_right_2d
        iterate 4 (walk_at "ev"; try walk_at "evs")
      · show (if ((rowOf l h s r W (j : Int)).map PV.int).length ≠ 0 then some (ils (rowOf l h s r W (j : Int))) else none) = _
        rw [hl, if_pos (fun y => z (List.length_eq_zero_iff.mp y))])
  rw [List.nil_append] at e
  clear g hW n2 nn
  unfold q__law_right_3
  generalize (rows l h s r t W).filterMap anyF = AL at *
  generalize rows l h s r t W = R at *
  iterate 5 (walk_at "ev"; try walk_at "evs")
/-- what the law asks of one statement holds -/
theorem e_right {sts : List PV} (k : Kst sts i l h s r) : m__law_right [.val (kern t sts []), .val (.int i), .val (gt l h s r), .val (.int t), .val (.int W)] [] = .ok (.bl true) [] := by
  have n2 := nw_le hW.1 g.t0
  have nn : nw t W ≤ 100 := by have := g.tb; unfold nw; omega
  have n1 : 1 ≤ nw t W := by unfold nw; omega
  have nz : (nw t W : Int) = (t + W - 1) / W := by unfold nw; omega
  have c1 := e_count_waves (n := t) (bars := []) k g.gs hW
  have c2 := e_full_waves (n := t) (bars := []) k g.gs hW
  have c3 : ∀ j : Nat, j < nw t W → m_lanes_in_wave [.val (kern t sts []), .val (.int i), .val (.int W), .val (.int j)] [] = .ok (.int ((rowOf l h s r W (j : Int)).length : Int)) [] := fun j hj => by
    rw [e_lanes_in_wave (n := t) (bars := []) k g.gs hW (by omega) (by omega) (mulb g hW j hj)]
    unfold rowOf
    rw [listed_len g.gs.s0 g.r0 g.r1]
  have w1 := waves_count (W := W) (t := t) g.gs.s0 (by omega) g.r0 g.r1 g.l0 g.lh g.ht
  have w2 := full_count (W := W) (t := t) g.gs.s0 (by omega) g.r0 g.r1 g.l0 g.lh g.ht
  rw [← any_len] at w1
  rw [← full_len] at w2
  have t1 := e_r1 (i := i) g hW (kern t sts [])
  have t2 := e_r2 (i := i) g hW (kern t sts [])
  have t3 := e_r3 (i := i) g hW (kern t sts []) ((enumP (rows l h s r t W)).filterMap (fullF t W))
  rw [← w1, ← w2] at t3
  have T0 : ∀ a b : Nat → PV, (∀ j : Nat, j < nw t W → a j = b j) → (List.range (nw t W)).map a = (List.range (nw t W)).map b := fun a b q => List.map_congr_left fun j hj => q j (by simpa using hj)
  obtain ⟨T, hT⟩ : ∃ T : List Int, T = (List.range (nw t W)).map fun j : Nat => ((rowOf l h s r W (j : Int)).length : Int) := ⟨_, rfl⟩
  have Tl : T.length = nw t W := by rw [hT]; simp
  have Tm : T.map PV.int = (List.range (nw t W)).map fun j : Nat => .int ((rowOf l h s r W (j : Int)).length : Int) := by rw [hT, List.map_map]; rfl
  obtain ⟨z, hz⟩ : ∃ z : Int, z = ((rowOf l h s r W ((nw t W - 1 : Nat) : Int)).length : Int) := ⟨_, rfl⟩
  have zT : atI (T.map PV.int) (-1) = some (.int z) := by
    refine atI_last ?_
    rw [List.length_map, Tl, Tm, List.getElem?_map, List.getElem?_range (by omega), hz]
    rfl
  have c4 := c3 (nw t W - 1) (by omega)
  rw [← hz, show ((nw t W - 1 : Nat) : Int) = (nw t W : Int) - 1 by omega] at c4
  generalize hFL : (enumP (rows l h s r t W)).filterMap (fullF t W) = FL at *
  have t4 : q__law_right_4 ⟨[some (.val (kern t sts [])), some (.val (.int i)), some (.val (gt l h s r)), some (.val (.int t)), some (.val (.int W)), some (.val (.lst (rows l h s r t W))), some (.val (.lst FL)), some (.val (.lst [.int (wavesWith l h s r W), .int (fullIn l h s r W t)])), none, none, none, none], []⟩ = .nx ⟨[some (.val (kern t sts [])), some (.val (.int i)), some (.val (gt l h s r)), some (.val (.int t)), some (.val (.int W)), some (.val (.lst (rows l h s r t W))), some (.val (.lst FL)), some (.val (.lst [.int (wavesWith l h s r W), .int (fullIn l h s r W t)])), none, none, none, none], []⟩ := by
    have en := eqB2 (wavesWith l h s r W) (fullIn l h s r W t)
    clear g hW k n2 nn n1 nz c3 c4 w1 w2 t1 t2 t3 T0 hT Tl Tm hz zT hFL
    unfold q__law_right_4
    generalize wavesWith l h s r W = a1 at *
    generalize fullIn l h s r W t = a2 at *
    generalize rows l h s r t W = R at *
    generalize kern t sts [] = kn at *
    iterate 4 (walk_at "ev"; try walk_at "evs")
  have t5 : q__law_right_5 ⟨[some (.val (kern t sts [])), some (.val (.int i)), some (.val (gt l h s r)), some (.val (.int t)), some (.val (.int W)), some (.val (.lst (rows l h s r t W))), some (.val (.lst FL)), some (.val (.lst [.int (wavesWith l h s r W), .int (fullIn l h s r W t)])), none, none, none, none], []⟩ = .nx ⟨[some (.val (kern t sts [])), some (.val (.int i)), some (.val (gt l h s r)), some (.val (.int t)), some (.val (.int W)), some (.val (.lst (rows l h s r t W))), some (.val (.lst FL)), some (.val (.lst [.int (wavesWith l h s r W), .int (fullIn l h s r W t)])), none, none, none, none], []⟩ := by
    have en := eqB2 (wavesWith l h s r W) (fullIn l h s r W t)
    clear g hW k n2 nn n1 nz c3 c4 w1 w2 t1 t2 t3 t4 T0 hT Tl Tm hz zT hFL
    unfold q__law_right_5
    generalize wavesWith l h s r W = a1 at *
    generalize fullIn l h s r W t = a2 at *
    generalize rows l h s r t W = R at *
    generalize kern t sts [] = kn at *
    iterate 5 (walk_at "ev"; try walk_at "evs")
  have rl : (rows l h s r t W).length = nw t W := by unfold rows; simp
  have e6 := compL_map (vs := [10]) (a := l__law_right_3c) (ft := l__law_right_3d) (fe := l__law_right_3e) (s := ⟨[some (.val (kern t sts [])), some (.val (.int i)), some (.val (gt l h s r)), some (.val (.int t)), some (.val (.int W)), some (.val (.lst (rows l h s r t W))), some (.val (.lst FL)), some (.val (.lst [.int (wavesWith l h s r W), .int (fullIn l h s r W t)])), none, none, none, none], []⟩)
    (fun p => match p with | .int j => some (.int ((rowOf l h s r W j).length : Int)) | _ => none) ((List.range (nw t W)).map fun j : Nat => .int (j : Int)) [] (by simp; omega) (by
    intro p hp
    obtain ⟨j, hj, rfl⟩ := List.mem_map.mp hp
    have cj := c3 j (by simpa using hj)
    refine ⟨_, rfl, .inl ⟨_, .int ((rowOf l h s r W (j : Int)).length : Int), ⟨[some (.val (kern t sts [])), some (.val (.int i)), some (.val (gt l h s r)), some (.val (.int t)), some (.val (.int W)), some (.val (.lst (rows l h s r t W))), some (.val (.lst FL)), some (.val (.lst [.int (wavesWith l h s r W), .int (fullIn l h s r W t)])), none, none, some (.val (.int (j : Int))), none], []⟩, rfl, ?_, rfl, rfl⟩⟩
    clear g hW k n2 nn n1 nz c1 c2 c3 c4 w1 w2 t1 t2 t3 t4 t5 T0 hT Tl Tm hz zT hFL rl hp hj
    unfold l__law_right_3e
    generalize wavesWith l h s r W = a1 at *
    generalize fullIn l h s r W t = a2 at *
    generalize rows l h s r t W = R at *
    generalize kern t sts [] = kn at *
    iterate 4 (walk_at "ev"; try walk_at "evs"))
  rw [List.nil_append, List.filterMap_map] at e6
  have e6x : (List.range (nw t W)).filterMap ((fun p => match p with | .int j => some (PV.int ((rowOf l h s r W j).length : Int)) | _ => none) ∘ fun j : Nat => PV.int (j : Int)) = T.map PV.int := by
    rw [Tm]
    exact filterMap_some' (fun j : Nat => PV.int ((rowOf l h s r W (j : Int)).length : Int)) _
  rw [e6x] at e6
  have t6 : q__law_right_6 ⟨[some (.val (kern t sts [])), some (.val (.int i)), some (.val (gt l h s r)), some (.val (.int t)), some (.val (.int W)), some (.val (.lst (rows l h s r t W))), some (.val (.lst FL)), some (.val (.lst [.int (wavesWith l h s r W), .int (fullIn l h s r W t)])), none, none, none, none], []⟩ = .nx ⟨[some (.val (kern t sts [])), some (.val (.int i)), some (.val (gt l h s r)), some (.val (.int t)), some (.val (.int W)), some (.val (.lst (rows l h s r t W))), some (.val (.lst FL)), some (.val (.lst [.int (wavesWith l h s r W), .int (fullIn l h s r W t)])), some (.val (.lst (T.map PV.int))), none, none, none], []⟩ := by
    have rn : rng 0 (((nw t W : Nat) : Int)).toNat = (List.range (nw t W)).map fun j : Nat => PV.int (j : Int) := by rw [Int.toNat_natCast]; exact rng_nat _
    clear g hW k n2 nn n1 nz c1 c2 c3 c4 w1 w2 t1 t2 t3 t4 t5 T0 hT Tl Tm hz zT hFL e6x
    unfold q__law_right_6
    generalize wavesWith l h s r W = a1 at *
    generalize fullIn l h s r W t = a2 at *
    generalize rows l h s r t W = R at *
    generalize kern t sts [] = kn at *
    generalize nw t W = N at *
    iterate 5 (walk_at "ev"; try walk_at "evs")
  have t7 : q__law_right_7 ⟨[some (.val (kern t sts [])), some (.val (.int i)), some (.val (gt l h s r)), some (.val (.int t)), some (.val (.int W)), some (.val (.lst (rows l h s r t W))), some (.val (.lst FL)), some (.val (.lst [.int (wavesWith l h s r W), .int (fullIn l h s r W t)])), some (.val (.lst (T.map PV.int))), none, none, none], []⟩ = .nx ⟨[some (.val (kern t sts [])), some (.val (.int i)), some (.val (gt l h s r)), some (.val (.int t)), some (.val (.int W)), some (.val (.lst (rows l h s r t W))), some (.val (.lst FL)), some (.val (.lst [.int (wavesWith l h s r W), .int (fullIn l h s r W t)])), some (.val (.lst (T.map PV.int))), some (.val (.int z)), none, none], []⟩ := by
    clear g hW k n2 nn n1 nz c1 c2 c3 w1 w2 t1 t2 t3 t4 t5 t6 T0 hT Tl Tm hz zT hFL e6 e6x
    unfold q__law_right_7
    generalize wavesWith l h s r W = a1 at *
    generalize fullIn l h s r W t = a2 at *
    generalize rows l h s r t W = R at *
    generalize kern t sts [] = kn at *
    generalize nw t W = N at *
    iterate 5 (walk_at "ev"; try walk_at "evs")
  have e8 := compL_map (vs := [11]) (a := l__law_right_4c) (ft := l__law_right_4d) (fe := l__law_right_4e) (s := ⟨[some (.val (kern t sts [])), some (.val (.int i)), some (.val (gt l h s r)), some (.val (.int t)), some (.val (.int W)), some (.val (.lst (rows l h s r t W))), some (.val (.lst FL)), some (.val (.lst [.int (wavesWith l h s r W), .int (fullIn l h s r W t)])), some (.val (.lst (T.map PV.int))), some (.val (.int z)), none, none], []⟩)
    (fun p => match p with | .lst q => some (.int (q.length : Int)) | _ => none) (rows l h s r t W) [] (by rw [rl, List.length_nil]; omega) (by
    intro p hp
    obtain ⟨j, hj, rfl⟩ := List.mem_map.mp hp
    refine ⟨_, rfl, .inl ⟨_, .int (((rowOf l h s r W (j : Int)).map PV.int).length : Int), ⟨[some (.val (kern t sts [])), some (.val (.int i)), some (.val (gt l h s r)), some (.val (.int t)), some (.val (.int W)), some (.val (.lst (rows l h s r t W))), some (.val (.lst FL)), some (.val (.lst [.int (wavesWith l h s r W), .int (fullIn l h s r W t)])), some (.val (.lst (T.map PV.int))), some (.val (.int z)), none, some (.val (ils (rowOf l h s r W (j : Int))))], []⟩, rfl, rfl, rfl, rfl⟩⟩)
  have e8x : (rows l h s r t W).filterMap (fun p => match p with | .lst q => some (PV.int (q.length : Int)) | _ => none) = T.map PV.int := by
    unfold rows
    rw [Tm, List.filterMap_map]
    refine (filterMap_some' (fun j : Nat => PV.int (((rowOf l h s r W (j : Int)).map PV.int).length : Int)) _).trans ?_
    exact List.map_congr_left fun j _ => by rw [List.length_map]
  rw [List.nil_append, e8x] at e8
  have t8 : q__law_right_8 ⟨[some (.val (kern t sts [])), some (.val (.int i)), some (.val (gt l h s r)), some (.val (.int t)), some (.val (.int W)), some (.val (.lst (rows l h s r t W))), some (.val (.lst FL)), some (.val (.lst [.int (wavesWith l h s r W), .int (fullIn l h s r W t)])), some (.val (.lst (T.map PV.int))), some (.val (.int z)), none, none], []⟩ = .rt (.bl true) ⟨[some (.val (kern t sts [])), some (.val (.int i)), some (.val (gt l h s r)), some (.val (.int t)), some (.val (.int W)), some (.val (.lst (rows l h s r t W))), some (.val (.lst FL)), some (.val (.lst [.int (wavesWith l h s r W), .int (fullIn l h s r W t)])), some (.val (.lst (T.map PV.int))), some (.val (.int z)), none, none], []⟩ := by
    have en := eqB_ints T T
    rw [decide_eq_true rfl] at en
    have en2 := eqB_int z z
    rw [beq_self_eq_true] at en2
    clear g hW k n2 nn n1 nz c1 c2 c3 c4 w1 w2 t1 t2 t3 t4 t5 t6 t7 T0 hT Tl Tm hz hFL e6 e6x e8x
    unfold q__law_right_8
    generalize wavesWith l h s r W = a1 at *
    generalize fullIn l h s r W t = a2 at *
    generalize rows l h s r t W = R at *
    generalize kern t sts [] = kn at *
    generalize T.map PV.int = TT at *
    iterate 5 (walk_at "ev"; try walk_at "evs")
  unfold m__law_right
  rw [g__law_right_eq]
  simp only [mOf, start0, List.map_cons, List.map_nil, List.length_cons, List.length_nil, Nat.reduceAdd, Nat.reduceSub, List.replicate, List.cons_append, List.nil_append]
  rw [seq_nx t1, seq_nx t2, seq_nx t3, seq_nx t4, seq_nx t5, seq_nx t6, seq_nx t7, seq_rt t8]
  rfl
end
end K39

/-! K39_S: the law k39. -/
namespace K39
open PySem PySem.Spec PyProof.Rows L2 PL PN PM
local macro_rules | `(tactic| walk_at "ev") => `(tactic| try simp only [mOf, endF, start0, gSeq, gNop, gAsg, gRet, gRetO, gAsgO, gDrop, gIf, gOpt, gPar, gPar3, gAug, aName, asNil, asCons, aTup, aLst, setV, setO, eVar, eC, eBin, eUn, eTup, aNil, aCons, oLst, frz, eCall, oCall, avN, avK, permL, lNil, lPv, lSl, tOf, tTru, tNt, tAn, tOrr, eIf, eAn, eOr, eNt, eChain, eCallB, eIxM, gSetIx, getM, pTru, pAdd, pSub, pMul, pFdiv, pMod, pPow, pNeg, pLt, pLe, pGt, pGe, pIs, pIsNot, pAddI, pIx, pLen, pAbs, pMax2, pMin2, Res.bind_ok, Res.bind_ex, Res.bind_stuck, Res.fl_ok, Res.fl_ex, Res.fl_stuck, Res.opt_some, Res.opt_none, lowerA, keyOf, getK, getAll, setAll, setK, distinct, List.map_cons, List.map_nil, List.length_cons, List.length_nil, List.replicate, List.cons_append, List.nil_append, List.append_nil, List.getElem?_cons_zero, List.getElem?_cons_succ, List.getElem?_nil, List.set_cons_zero, List.set_cons_succ, List.filterMap_cons, List.filterMap_nil, Option.bind_some, Option.map_some, Option.elim_some, if_true, if_false, Nat.reduceAdd, Nat.reduceSub, Nat.reduceEqDiff, Nat.reduceLeDiff, ↓reduceIte, Bool.false_eq_true, at0, at1, at2, at3, pEq, pNe, eqB_int, Option.some.injEq, decide_true, decide_false, not_true_eq_false, not_false_eq_true, Bool.and_true, ne_eq, reduceCtorEq, Bool.true_eq_false, Bool.not_true, Bool.not_false, frz, noEx, wipeS, wipeR, backS, backR, keepV, oComp, gFor, iAny, iRange1, iRange2, iRange3, iRangeW1, iRangeW2, eCallQ, oRgW2, oRgW, pInt1, iEnumQ, eDct, iTxt, eFld, eMake, gSetFld, eFldM, eTupV, putP, eLenSet, gFrz, Nat.reduceLT, oRg2, oRg1, oRg, tYesD, pIn, pNotIn, eSl, pNo, pSo, forL_nil, gApp, gParO, List.not_mem_nil, List.not_mem_nil])
local macro_rules | `(tactic| walk_at "evs") => `(tactic| simp only [*, mOf, endF, start0, gSeq, gNop, gAsg, gRet, gRetO, gAsgO, gDrop, gIf, gOpt, gPar, gPar3, gAug, aName, asNil, asCons, aTup, aLst, setV, setO, eVar, eC, eBin, eUn, eTup, aNil, aCons, oLst, frz, eCall, oCall, avN, avK, permL, lNil, lPv, lSl, tOf, tTru, tNt, tAn, tOrr, eIf, eAn, eOr, eNt, eChain, eCallB, eIxM, gSetIx, getM, pTru, pAdd, pSub, pMul, pFdiv, pMod, pPow, pNeg, pLt, pLe, pGt, pGe, pIs, pIsNot, pAddI, pIx, pLen, pAbs, pMax2, pMin2, Res.bind_ok, Res.bind_ex, Res.bind_stuck, Res.fl_ok, Res.fl_ex, Res.fl_stuck, Res.opt_some, Res.opt_none, lowerA, keyOf, getK, getAll, setAll, setK, distinct, List.map_cons, List.map_nil, List.length_cons, List.length_nil, List.replicate, List.cons_append, List.nil_append, List.append_nil, List.getElem?_cons_zero, List.getElem?_cons_succ, List.getElem?_nil, List.set_cons_zero, List.set_cons_succ, List.filterMap_cons, List.filterMap_nil, Option.bind_some, Option.map_some, Option.elim_some, if_true, if_false, Nat.reduceAdd, Nat.reduceSub, Nat.reduceEqDiff, Nat.reduceLeDiff, ↓reduceIte, Bool.false_eq_true, at0, at1, at2, at3, pEq, pNe, eqB_int, Option.some.injEq, decide_true, decide_false, not_true_eq_false, not_false_eq_true, Bool.and_true, ne_eq, reduceCtorEq, Bool.true_eq_false, Bool.not_true, Bool.not_false, frz, noEx, wipeS, wipeR, backS, backR, keepV, oComp, gFor, iAny, iRange1, iRange2, iRange3, iRangeW1, iRangeW2, eCallQ, oRgW2, oRgW, pInt1, iEnumQ, eDct, iTxt, eFld, eMake, gSetFld, eFldM, eTupV, putP, eLenSet, gFrz, Nat.reduceLT, oRg2, oRg1, oRg, tYesD, pIn, pNotIn, eSl, pNo, pSo, forL_nil, gApp, gParO, List.not_mem_nil, List.not_mem_nil, eq_self, not_true_eq_false, not_false_eq_true, ix30, ix31, ix32, Bool.and_self, and_self, and_true, true_and])

abbrev stx (p : PV) : PV := putP' p "x" 1 0 0 0
theorem Kst.of {gs : List PV} {i : Nat} {l h s r : Int} (e : gs[i]? = some (gt l h s r)) : Kst (gs.map stx) (i : Int) l h s r := by
  have hi := (List.getElem?_eq_some_iff.mp e).1
  refine ⟨by omega, by rw [List.length_map]; omega, _, atI_at (by rw [List.getElem?_map, e]; rfl), at1 _ _ _⟩
theorem e_made {t : Int} (t0 : 1 ≤ t) {gs : List PV} (hg : ∀ p ∈ gs, ∃ l h s r, p = gt l h s r ∧ Gt t l h s r) : m_Kernel___init__ [.bor 0, .val (.int t), .val (.lst (gs.map stx)), .val (.tup [])] [.ins "Kernel" []] = .ok .non [.ins "Kernel" [("lane_count", .int t), ("kept_statements", .tup (gs.map stx)), ("kept_barriers", .tup [])]] := by
  refine e_kernel t t0 (gs.map stx) fun p hp => ?_
  obtain ⟨q, hq, rfl⟩ := List.mem_map.mp hp
  obtain ⟨l, h, s, r, rfl, g⟩ := hg q hq
  rw [e_is_put arr_x, g.gs.guard, decide_eq_true g.ht]
  rfl
section
variable {sc : PV}
theorem e_s1 {k : Nat} {m : MO} (hp : Pool k m) (hk : k < 2 ^ 40) (x1 x3 x4 x5 x6 x7 x8 x9 x10 : Option SV) : ∃ t m', 1 ≤ t ∧ t ≤ 100 ∧ Pool (k + 2) m' ∧ l_law_2c_s1 ⟨[some (.val (sc)), x1, some (.own m), x3, x4, x5, x6, x7, x8, x9, x10, none, none, none], []⟩ = .nx ⟨[some (.val (sc)), x1, some (.own m'), x3, some (.val (.int t)), x5, x6, x7, x8, x9, x10, none, none, none], []⟩ := by
  obtain ⟨d1, m1, e1, a1, z1, p1⟩ := e_pdraw hp (by omega) 3 (by decide) (by decide +kernel)
  obtain ⟨v, hv, e2⟩ := atI_mem [6, 40, 100] d1 a1 (by simpa using z1)
  have v0 : 1 ≤ v ∧ v ≤ 100 := by simp at hv; omega
  obtain ⟨d2, m2, e3, a2, z2, p2⟩ := e_pdraw p1 (by omega) v (by omega) (sm (by omega) (by omega))
  refine ⟨1 + d2, m2, by omega, by omega, p2, ?_⟩
  simp only [List.map_cons, List.map_nil] at e2
  clear hp hk p1 p2 a1 a2 z1 z2 hv v0
  unfold l_law_2c_s1
  iterate 6 (walk_at "ev"; try walk_at "evs")
theorem compL_invB {vs : List Nat} {a : PV → Stt → Option Stt} {fe : Stt → Res PV} (B : Nat) (R : List PV → Stt → Prop) : ∀ (l acc : List PV) (s : Stt), acc.length + l.length ≤ 16777216 → acc.length + l.length ≤ B → R acc s →
    (∀ p acc s, acc.length < B → R acc s → ∃ s1, a p s = some s1 ∧ ∃ y s3, fe s1 = .ok y s3 ∧ R (acc ++ [y]) (wipeS vs s3)) →
    ∃ out s2, compL vs a tYesD fe l acc s = .ok out s2 ∧ R out s2 ∧ out.length = acc.length + l.length
  | [], acc, s, _, _, h0, _ => ⟨acc, s, rfl, h0, by simp⟩
  | p :: r, acc, s, hl, hB, h0, h => by
    rw [List.length_cons] at hl hB
    obtain ⟨s1, e1, y, s3, e3, h3⟩ := h p acc s (by omega) h0
    obtain ⟨out, s2, e, hR, hlen⟩ := compL_invB B R r (acc ++ [y]) (wipeS vs s3) (by rw [List.length_append, List.length_singleton]; omega) (by rw [List.length_append, List.length_singleton]; omega) h3 h
    refine ⟨out, s2, ?_, hR, by rw [hlen, List.length_append, List.length_singleton, List.length_cons]; omega⟩
    rw [compL_cons _ _ _ _ _ _ _ _ _ e1]
    simp only [tYesD, Res.bind_ok, if_true, e3]
    rw [if_pos (by omega)]
    exact e
theorem e_s2 {k : Nat} {m : MO} (hp : Pool k m) (hk : k < 2 ^ 30) {t : Int} (t0 : 1 ≤ t) (tb : t ≤ 100) (x1 x3 x4 x5 x6 x7 x8 x9 x10 : Option SV) : ∃ gs m', (∀ p ∈ gs, ∃ l h s r, p = gt l h s r ∧ Gt t l h s r) ∧ gs.length ≤ 3 ∧ Pool (k + 22) m' ∧
    l_law_2c_s2 ⟨[some (.val (sc)), x1, some (.own m), x3, some (.val (.int t)), x5, x6, x7, x8, x9, x10, none, none, none], []⟩ = .nx ⟨[some (.val (sc)), x1, some (.own m'), x3, some (.val (.int t)), some (.val (.lst gs)), x6, x7, x8, x9, x10, none, none, none], []⟩ := by
  obtain ⟨d, m1, e1, a1, z1, p1⟩ := e_pdraw hp (by omega) 3 (by decide) (by decide +kernel)
  obtain ⟨gs, s2, e2, ⟨m2, p2, hg, rfl⟩, hl⟩ := compL_invB (vs := [13]) (a := l_law_3c) (fe := l_law_3e) 3 (fun acc st => ∃ m2, Pool (k + 1 + 7 * acc.length) m2 ∧ (∀ p ∈ acc, ∃ l h s r, p = gt l h s r ∧ Gt t l h s r) ∧ st = ⟨[some (.val (sc)), x1, some (.own m2), x3, some (.val (.int t)), x5, x6, x7, x8, x9, x10, none, none, none], []⟩) (rng 0 (1 + d).toNat) [] ⟨[some (.val (sc)), x1, some (.own m1), x3, some (.val (.int t)), x5, x6, x7, x8, x9, x10, none, none, none], []⟩ (by rw [rng_length, List.length_nil]; omega) (by rw [rng_length, List.length_nil]; omega) ⟨m1, p1, by simp, rfl⟩ (by
    rintro p acc st big ⟨m2, p2, hg, rfl⟩
    obtain ⟨l, h, s, r, m3, e3, g3, p3⟩ := e_guard p2 (by omega) t t0 tb
    refine ⟨_, rfl, gt l h s r, ⟨[some (.val (sc)), x1, some (.own m3), x3, some (.val (.int t)), x5, x6, x7, x8, x9, x10, none, none, some (.val p)], []⟩, ?_, m3, p3.mono (by rw [List.length_append, List.length_singleton]; omega), ?_, rfl⟩
    · clear hp hk t0 tb e1 a1 z1 p1 p2 hg big p3 g3
      unfold l_law_3e
      iterate 5 (walk_at "ev"; try walk_at "evs")
    · intro q hq
      rcases List.mem_append.mp hq with z | z
      · exact hg q z
      · rw [List.mem_singleton] at z; exact ⟨l, h, s, r, z, g3⟩)
  rw [rng_length, List.length_nil] at hl
  have e2' : compL [13] l_law_3c l_law_3d l_law_3e (rng 0 (1 + d).toNat) [] ⟨[some (.val (sc)), x1, some (.own m1), x3, some (.val (.int t)), x5, x6, x7, x8, x9, x10, none, none, none], []⟩ = .ok gs ⟨[some (.val (sc)), x1, some (.own m2), x3, some (.val (.int t)), x5, x6, x7, x8, x9, x10, none, none, none], []⟩ := e2
  refine ⟨gs, m2, hg, by omega, p2.mono (by omega), ?_⟩
  clear hp hk t0 tb a1 z1 p1 p2 hg hl e2
  unfold l_law_2c_s2
  iterate 6 (walk_at "ev"; try walk_at "evs")
theorem e_s3 {m : MO} {t : Int} (t0 : 1 ≤ t) {gs : List PV} (hg : ∀ p ∈ gs, ∃ l h s r, p = gt l h s r ∧ Gt t l h s r) (hl : gs.length ≤ 3) (o8 : Option PV) (x1 x3 x6 x7 x9 x10 : Option SV) :
    l_law_2c_s3 ⟨[some (.val (sc)), x1, some (.own m), x3, some (.val (.int t)), some (.val (.lst gs)), x6, x7, (o8.map SV.val), x9, x10, none, none, none], []⟩ = .nx ⟨[some (.val (sc)), x1, some (.own m), x3, some (.val (.int t)), some (.val (.lst gs)), some (.val (kern t (gs.map stx) [])), x7, (o8.map SV.val), x9, x10, none, none, none], []⟩ := by
  have c1 := e_made t0 hg
  have e := compL_map (vs := [8]) (a := l_law_4c) (ft := l_law_4d) (fe := l_law_4e) (s := ⟨[some (.val (sc)), x1, some (.own m), x3, some (.val (.int t)), some (.val (.lst gs)), x6, x7, none, x9, x10, none, none, none], []⟩) (fun p => some (stx p)) gs [] (by rw [List.length_nil]; omega) (by
    intro p hp
    exact ⟨_, rfl, .inl ⟨_, stx p, ⟨[some (.val (sc)), x1, some (.own m), x3, some (.val (.int t)), some (.val (.lst gs)), x6, x7, some (.val (p)), x9, x10, none, none, none], []⟩, rfl, rfl, rfl, rfl⟩⟩)
  rw [List.nil_append, filterMap_some'] at e
  clear t0 hg hl
  generalize gs.map stx = sts at *
  unfold l_law_2c_s3
  cases o8 with
  | none =>
    show _ = Fl.nx ⟨[some (.val (sc)), x1, some (.own m), x3, some (.val (.int t)), some (.val (.lst gs)), some (.val (kern t sts [])), x7, none, x9, x10, none, none, none], []⟩
    show (_ : Stt → Fl) ⟨[some (.val (sc)), x1, some (.own m), x3, some (.val (.int t)), some (.val (.lst gs)), x6, x7, none, x9, x10, none, none, none], []⟩ = _
    iterate 6 (walk_at "ev"; try walk_at "evs")
  | some q =>
    show (_ : Stt → Fl) ⟨[some (.val (sc)), x1, some (.own m), x3, some (.val (.int t)), some (.val (.lst gs)), x6, x7, some (.val (q)), x9, x10, none, none, none], []⟩ = Fl.nx ⟨[some (.val (sc)), x1, some (.own m), x3, some (.val (.int t)), some (.val (.lst gs)), some (.val (kern t sts [])), x7, some (.val (q)), x9, x10, none, none, none], []⟩
    iterate 6 (walk_at "ev"; try walk_at "evs")
/-- one statement, three lengths of waves -/
theorem e_5c {k : Nat} {m : MO} (hp : Pool k m) (hk : k < 2 ^ 40) {t l h s r i : Int} (g : Gt t l h s r) {gs : List PV} (ks : Kst (gs.map stx) i l h s r) (x1 x3 x9 x10 : Option SV) : ∃ m' x9' x10', Pool (k + 4) m' ∧
    l_law_5c ⟨[some (.val (sc)), x1, some (.own m), x3, some (.val (.int t)), some (.val (.lst gs)), some (.val (kern t (gs.map stx) [])), some (.val (.int i)), some (.val (gt l h s r)), x9, x10, none, none, none], []⟩ = .nx ⟨[some (.val (sc)), x1, some (.own m'), x3, some (.val (.int t)), some (.val (.lst gs)), some (.val (kern t (gs.map stx) [])), some (.val (.int i)), some (.val (gt l h s r)), x9', x10', none, none, none], []⟩ := by
  obtain ⟨a, m1, e1, a0, a1, p1⟩ := e_span hp (by omega)
  obtain ⟨b, m2, e2, b0, b1, p2⟩ := e_span p1 (by omega)
  have t1 : l_law_5c_s1 ⟨[some (.val (sc)), x1, some (.own m), x3, some (.val (.int t)), some (.val (.lst gs)), some (.val (kern t (gs.map stx) [])), some (.val (.int i)), some (.val (gt l h s r)), x9, x10, none, none, none], []⟩ = .nx ⟨[some (.val (sc)), x1, some (.own m2), x3, some (.val (.int t)), some (.val (.lst gs)), some (.val (kern t (gs.map stx) [])), some (.val (.int i)), some (.val (gt l h s r)), some (.val (.lst [.int a, .int b])), x10, none, none, none], []⟩ := by
    clear hp hk g ks a0 a1 b0 b1 p1 p2
    generalize kern t (gs.map stx) [] = kn at *
    unfold l_law_5c_s1
    iterate 6 (walk_at "ev"; try walk_at "evs")
  obtain ⟨st, e3, x, rfl⟩ := forL_all (a := l_law_6b) (b := l_law_6c) (fun st => ∃ x : Option SV, st = ⟨[some (.val (sc)), x1, some (.own m2), x3, some (.val (.int t)), some (.val (.lst gs)), some (.val (kern t (gs.map stx) [])), some (.val (.int i)), some (.val (gt l h s r)), some (.val (.lst [.int a, .int b])), x, none, none, none], []⟩) (l := [.int a, .int b, .int a]) (s := ⟨[some (.val (sc)), x1, some (.own m2), x3, some (.val (.int t)), some (.val (.lst gs)), some (.val (kern t (gs.map stx) [])), some (.val (.int i)), some (.val (gt l h s r)), some (.val (.lst [.int a, .int b])), x10, none, none, none], []⟩) ⟨x10, rfl⟩ (by
    rintro p st hp2 ⟨x, rfl⟩
    have hj : ∃ W : Int, p = .int W ∧ 1 ≤ W ∧ W ≤ 32 := by
      simp only [List.mem_cons, List.not_mem_nil, or_false] at hp2
      rcases hp2 with rfl | rfl | rfl
      · exact ⟨_, rfl, a0, a1⟩
      · exact ⟨_, rfl, b0, b1⟩
      · exact ⟨_, rfl, a0, a1⟩
    obtain ⟨W, rfl, w0, w1⟩ := hj
    have c := e_right g ⟨w0, w1⟩ ks
    refine ⟨_, rfl, ⟨[some (.val (sc)), x1, some (.own m2), x3, some (.val (.int t)), some (.val (.lst gs)), some (.val (kern t (gs.map stx) [])), some (.val (.int i)), some (.val (gt l h s r)), some (.val (.lst [.int a, .int b])), some (.val (.int W)), none, none, none], []⟩, .inl ?_, _, rfl⟩
    clear hp hk g ks a0 a1 b0 b1 p1 p2 e1 e2 t1 hp2 w0 w1
    show l_law_6c ⟨[some (.val (sc)), x1, some (.own m2), x3, some (.val (.int t)), some (.val (.lst gs)), some (.val (kern t (gs.map stx) [])), some (.val (.int i)), some (.val (gt l h s r)), some (.val (.lst [.int a, .int b])), some (.val (.int W)), none, none, none], []⟩ = _
    generalize kern t (gs.map stx) [] = kn at *
    unfold l_law_6c l_law_6c_s1
    iterate 6 (walk_at "ev"; try walk_at "evs"))
  have t2 : l_law_5c_s2 ⟨[some (.val (sc)), x1, some (.own m2), x3, some (.val (.int t)), some (.val (.lst gs)), some (.val (kern t (gs.map stx) [])), some (.val (.int i)), some (.val (gt l h s r)), some (.val (.lst [.int a, .int b])), x10, none, none, none], []⟩ = .nx ⟨[some (.val (sc)), x1, some (.own m2), x3, some (.val (.int t)), some (.val (.lst gs)), some (.val (kern t (gs.map stx) [])), some (.val (.int i)), some (.val (gt l h s r)), some (.val (.lst [.int a, .int b])), x, none, none, none], []⟩ := by
    clear hp hk g ks a0 a1 b0 b1 p1 p2 e1 e2 t1
    generalize kern t (gs.map stx) [] = kn at *
    unfold l_law_5c_s2
    have z : eBin pAdd (eVar 9) (eSl (eVar 9) pNo (pSo (eC (.int 1)))) ⟨[some (.val (sc)), x1, some (.own m2), x3, some (.val (.int t)), some (.val (.lst gs)), some (.val (kn)), some (.val (.int i)), some (.val (gt l h s r)), some (.val (.lst [.int a, .int b])), x10, none, none, none], []⟩ = .ok (.lst [.int a, .int b, .int a]) ⟨[some (.val (sc)), x1, some (.own m2), x3, some (.val (.int t)), some (.val (.lst gs)), some (.val (kn)), some (.val (.int i)), some (.val (gt l h s r)), some (.val (.lst [.int a, .int b])), x10, none, none, none], []⟩ := rfl
    unfold gFor iAny
    rw [z]
    simp only [Res.bind_ok, Res.fl]
    exact e3
  refine ⟨m2, some (.val (.lst [.int a, .int b])), x, p2, ?_⟩
  unfold l_law_5c
  rw [seq_nx t1, seq_nx t2]
  rfl
/-- one turn: a kernel -/
theorem e_turn {k : Nat} {m : MO} (hp : Pool k m) (hk : k < 2 ^ 25) (o8 : Option PV) (x1 x3 x4 x5 x6 x7 x9 x10 : Option SV) : ∃ m' x4' x5' x6' x7' x9' x10', ∃ o8' : Option PV, Pool (k + 40) m' ∧
    l_law_2c ⟨[some (.val (sc)), x1, some (.own m), x3, x4, x5, x6, x7, (o8.map SV.val), x9, x10, none, none, none], []⟩ = .nx ⟨[some (.val (sc)), x1, some (.own m'), x3, x4', x5', x6', x7', (o8'.map SV.val), x9', x10', none, none, none], []⟩ := by
  obtain ⟨t, m1, t0, tb, p1, e1⟩ := e_s1 (sc := sc) hp (by omega) x1 x3 x4 x5 x6 x7 (o8.map SV.val) x9 x10
  obtain ⟨gs, m2, hg, hl, p2, e2⟩ := e_s2 (sc := sc) p1 (by omega) t0 tb x1 x3 x4 x5 x6 x7 (o8.map SV.val) x9 x10
  have e3 := e_s3 (sc := sc) (m := m2) t0 hg hl o8 x1 x3 x6 x7 x9 x10
  obtain ⟨st, e4, m3, x7', x9', x10', o8', p3, rfl⟩ := forL_inv (a := l_law_5b) (b := l_law_5c) (fun i st => ∃ m3 x7' x9' x10', ∃ o8' : Option PV, Pool (k + 2 + 22 + 4 * i) m3 ∧ st = ⟨[some (.val (sc)), x1, some (.own m3), x3, some (.val (.int t)), some (.val (.lst gs)), some (.val (kern t (gs.map stx) [])), x7', (o8'.map SV.val), x9', x10', none, none, none], []⟩) (enumP gs) 0 ⟨[some (.val (sc)), x1, some (.own m2), x3, some (.val (.int t)), some (.val (.lst gs)), some (.val (kern t (gs.map stx) [])), x7, (o8.map SV.val), x9, x10, none, none, none], []⟩ ⟨m2, x7, x9, x10, o8, p2, rfl⟩ (by
    rintro i p st hpi ⟨m3, x7', x9', x10', o8', p3, rfl⟩
    have hi : i < gs.length := by
      have := (List.getElem?_eq_some_iff.mp hpi).1
      rwa [enumP_len] at this
    have hpe : p = .tup [.int i, gs[i]] := by
      unfold enumP zipP at hpi
      rw [List.getElem?_zipWith, List.getElem?_map, List.getElem?_range hi, List.getElem?_eq_getElem hi] at hpi
      exact (Option.some.inj hpi).symm
    obtain ⟨l, h, s, r, eg, g⟩ := hg gs[i] (List.getElem_mem hi)
    have ks : Kst (gs.map stx) (i : Int) l h s r := Kst.of (by rw [List.getElem?_eq_getElem hi, eg])
    rw [eg] at hpe
    subst hpe
    obtain ⟨m4, y9, y10, p4, e5⟩ := e_5c (sc := sc) p3 (by omega) g ks x1 x3 x9' x10'
    exact ⟨_, rfl, _, .inl e5, m4, some (.val (.int (i : Int))), y9, y10, some (gt l h s r), p4.mono (by omega), rfl⟩)
  rw [enumP_len, Nat.zero_add] at p3
  have t4 : l_law_2c_s4 ⟨[some (.val (sc)), x1, some (.own m2), x3, some (.val (.int t)), some (.val (.lst gs)), some (.val (kern t (gs.map stx) [])), x7, (o8.map SV.val), x9, x10, none, none, none], []⟩ = .nx ⟨[some (.val (sc)), x1, some (.own m3), x3, some (.val (.int t)), some (.val (.lst gs)), some (.val (kern t (gs.map stx) [])), x7', (o8'.map SV.val), x9', x10', none, none, none], []⟩ := by
    clear hp hk e1 e2 e3 p1 p2 p3 t0 tb hg hl
    generalize kern t (gs.map stx) [] = kn at *
    unfold l_law_2c_s4
    iterate 5 (walk_at "ev"; try walk_at "evs")
  refine ⟨m3, some (.val (.int t)), some (.val (.lst gs)), some (.val (kern t (gs.map stx) [])), x7', x9', x10', o8', p3.mono (by omega), ?_⟩
  unfold l_law_2c
  rw [seq_nx e1, seq_nx e2, seq_nx e3, seq_nx t4]
  rfl
end
end K39

/-! K39_T: the law k39 holds. -/
namespace K39
open PySem PySem.Spec PyProof.Rows L2 PL PN PM
local macro_rules | `(tactic| walk_at "ev") => `(tactic| try simp only [mOf, endF, start0, gSeq, gNop, gAsg, gRet, gRetO, gAsgO, gDrop, gIf, gOpt, gPar, gPar3, gAug, aName, asNil, asCons, aTup, aLst, setV, setO, eVar, eC, eBin, eUn, eTup, aNil, aCons, oLst, frz, eCall, oCall, avN, avK, permL, lNil, lPv, lSl, tOf, tTru, tNt, tAn, tOrr, eIf, eAn, eOr, eNt, eChain, eCallB, eIxM, gSetIx, getM, pTru, pAdd, pSub, pMul, pFdiv, pMod, pPow, pNeg, pLt, pLe, pGt, pGe, pIs, pIsNot, pAddI, pIx, pLen, pAbs, pMax2, pMin2, Res.bind_ok, Res.bind_ex, Res.bind_stuck, Res.fl_ok, Res.fl_ex, Res.fl_stuck, Res.opt_some, Res.opt_none, lowerA, keyOf, getK, getAll, setAll, setK, distinct, List.map_cons, List.map_nil, List.length_cons, List.length_nil, List.replicate, List.cons_append, List.nil_append, List.append_nil, List.getElem?_cons_zero, List.getElem?_cons_succ, List.getElem?_nil, List.set_cons_zero, List.set_cons_succ, List.filterMap_cons, List.filterMap_nil, Option.bind_some, Option.map_some, Option.elim_some, if_true, if_false, Nat.reduceAdd, Nat.reduceSub, Nat.reduceEqDiff, Nat.reduceLeDiff, ↓reduceIte, Bool.false_eq_true, at0, at1, at2, at3, pEq, pNe, eqB_int, Option.some.injEq, decide_true, decide_false, not_true_eq_false, not_false_eq_true, Bool.and_true, ne_eq, reduceCtorEq, Bool.true_eq_false, Bool.not_true, Bool.not_false, frz, noEx, wipeS, wipeR, backS, backR, keepV, oComp, gFor, iAny, iRange1, iRange2, iRange3, iRangeW1, iRangeW2, eCallQ, oRgW2, oRgW, pInt1, iEnumQ, eDct, iTxt, eFld, eMake, gSetFld, eFldM, eTupV, putP, eLenSet, gFrz, Nat.reduceLT, oRg2, oRg1, oRg, tYesD, pIn, pNotIn, eSl, pNo, pSo, forL_nil, gApp, gParO, List.not_mem_nil, List.not_mem_nil])
local macro_rules | `(tactic| walk_at "evs") => `(tactic| simp only [*, mOf, endF, start0, gSeq, gNop, gAsg, gRet, gRetO, gAsgO, gDrop, gIf, gOpt, gPar, gPar3, gAug, aName, asNil, asCons, aTup, aLst, setV, setO, eVar, eC, eBin, eUn, eTup, aNil, aCons, oLst, frz, eCall, oCall, avN, avK, permL, lNil, lPv, lSl, tOf, tTru, tNt, tAn, tOrr, eIf, eAn, eOr, eNt, eChain, eCallB, eIxM, gSetIx, getM, pTru, pAdd, pSub, pMul, pFdiv, pMod, pPow, pNeg, pLt, pLe, pGt, pGe, pIs, pIsNot, pAddI, pIx, pLen, pAbs, pMax2, pMin2, Res.bind_ok, Res.bind_ex, Res.bind_stuck, Res.fl_ok, Res.fl_ex, Res.fl_stuck, Res.opt_some, Res.opt_none, lowerA, keyOf, getK, getAll, setAll, setK, distinct, List.map_cons, List.map_nil, List.length_cons, List.length_nil, List.replicate, List.cons_append, List.nil_append, List.append_nil, List.getElem?_cons_zero, List.getElem?_cons_succ, List.getElem?_nil, List.set_cons_zero, List.set_cons_succ, List.filterMap_cons, List.filterMap_nil, Option.bind_some, Option.map_some, Option.elim_some, if_true, if_false, Nat.reduceAdd, Nat.reduceSub, Nat.reduceEqDiff, Nat.reduceLeDiff, ↓reduceIte, Bool.false_eq_true, at0, at1, at2, at3, pEq, pNe, eqB_int, Option.some.injEq, decide_true, decide_false, not_true_eq_false, not_false_eq_true, Bool.and_true, ne_eq, reduceCtorEq, Bool.true_eq_false, Bool.not_true, Bool.not_false, frz, noEx, wipeS, wipeR, backS, backR, keepV, oComp, gFor, iAny, iRange1, iRange2, iRange3, iRangeW1, iRangeW2, eCallQ, oRgW2, oRgW, pInt1, iEnumQ, eDct, iTxt, eFld, eMake, gSetFld, eFldM, eTupV, putP, eLenSet, gFrz, Nat.reduceLT, oRg2, oRg1, oRg, tYesD, pIn, pNotIn, eSl, pNo, pSo, forL_nil, gApp, gParO, List.not_mem_nil, List.not_mem_nil, eq_self, not_true_eq_false, not_false_eq_true, ix30, ix31, ix32, Bool.and_self, and_self, and_true, true_and])

theorem law_true (ns : List Int) (hl : ns.length ≤ 63) : m_law [.val (scrOf ns)] [] = .ok (.bl true) [] := by
  obtain ⟨s2, e2, x1, x2, x3, x4, x5, x6, x7, o8, x9, x10, rfl⟩ := forL_inv (a := l_law_1b) (b := l_law_1c) (fun i s => ∃ x1 x2 x3 x4 x5 x6 x7, ∃ o8 : Option PV, ∃ x9 x10, s = ⟨[some (.val (scrOf ns)), x1, x2, x3, x4, x5, x6, x7, (o8.map SV.val), x9, x10, none, none, none], []⟩) (rng 0 (max 1 (min 10 (ns.length : Int))).toNat) 0 ⟨[some (.val (scrOf ns)), none, none, none, none, none, none, none, none, none, none, none, none, none], []⟩ ⟨none, none, none, none, none, none, none, none, none, none, rfl⟩ (by
    rintro i p s hp ⟨x1, x2, x3, x4, x5, x6, x7, o8, x9, x10, rfl⟩
    have hi : i < (max 1 (min 10 (ns.length : Int))).toNat := by
      have := (List.getElem?_eq_some_iff.mp hp).1
      rwa [rng_length] at this
    have hp2 : p = .int (i : Int) := by
      unfold rng at hp
      rw [List.getElem?_map, List.getElem?_range (by omega)] at hp
      simp at hp
      exact hp.symm
    subst hp2
    obtain ⟨m, e1, p1⟩ := e_pool ns i (by omega)
    have q1 : l_law_1c_s1 ⟨[some (.val (scrOf ns)), some (.val (.int i)), x2, x3, x4, x5, x6, x7, (o8.map SV.val), x9, x10, none, none, none], []⟩ = .nx ⟨[some (.val (scrOf ns)), some (.val (.int i)), some (.own m), x3, x4, x5, x6, x7, (o8.map SV.val), x9, x10, none, none, none], []⟩ := by
      clear hp hi p1 hl
      unfold l_law_1c_s1
      generalize scrOf ns = sc at *
      generalize (o8.map SV.val) = x8 at *
      iterate 4 (walk_at "ev"; try walk_at "evs")
    have q2 : ∃ m' x3' x4' x5' x6' x7', ∃ o8' : Option PV, ∃ x9' x10', l_law_1c_s2 ⟨[some (.val (scrOf ns)), some (.val (.int i)), some (.own m), x3, x4, x5, x6, x7, (o8.map SV.val), x9, x10, none, none, none], []⟩ = .nx ⟨[some (.val (scrOf ns)), some (.val (.int i)), some (.own m'), x3', x4', x5', x6', x7', (o8'.map SV.val), x9', x10', none, none, none], []⟩ := by
      obtain ⟨s3, e3, m', x3', x4', x5', x6', x7', o8', x9', x10', h1, h2⟩ := forL_inv (a := l_law_2b) (b := l_law_2c) (fun j s => ∃ m' x3' x4' x5' x6' x7', ∃ o8' : Option PV, ∃ x9' x10', Pool (40 * j) m' ∧ s = ⟨[some (.val (scrOf ns)), some (.val (.int i)), some (.own m'), x3', x4', x5', x6', x7', (o8'.map SV.val), x9', x10', none, none, none], []⟩) (rng 0 8) 0 ⟨[some (.val (scrOf ns)), some (.val (.int i)), some (.own m), x3, x4, x5, x6, x7, (o8.map SV.val), x9, x10, none, none, none], []⟩ ⟨m, x3, x4, x5, x6, x7, o8, x9, x10, p1, rfl⟩ (by
        rintro j p s hp ⟨m', x3', x4', x5', x6', x7', o8', x9', x10', h1, rfl⟩
        have hj : j < 8 := by
          have := (List.getElem?_eq_some_iff.mp hp).1
          rwa [rng_length] at this
        obtain ⟨m2, y4, y5, y6, y7, y9, y10, o8y, p2, e2⟩ := e_turn (sc := scrOf ns) h1 (by omega) o8' (some (.val (.int i))) (some (.val p)) x4' x5' x6' x7' x9' x10'
        exact ⟨_, rfl, _, .inl e2, m2, some (.val p), y4, y5, y6, y7, o8y, y9, y10, p2.mono (by omega), rfl⟩)
      subst h2
      refine ⟨m', x3', x4', x5', x6', x7', o8', x9', x10', ?_⟩
      clear hl hi p1 q1 h1 e1 hp
      unfold l_law_1c_s2
      have r3 : rng 0 (Int.toNat 8) = rng 0 8 := rfl
      generalize scrOf ns = sc at *
      generalize (o8.map SV.val) = x8 at *
      generalize (o8'.map SV.val) = x8' at *
      iterate 3 (walk_at "ev"; try walk_at "evs")
    obtain ⟨m', x3', x4', x5', x6', x7', o8', x9', x10', q2⟩ := q2
    refine ⟨_, rfl, ⟨[some (.val (scrOf ns)), some (.val (.int i)), some (.own m'), x3', x4', x5', x6', x7', (o8'.map SV.val), x9', x10', none, none, none], []⟩, .inl ?_, some (.val (.int i)), some (.own m'), x3', x4', x5', x6', x7', o8', x9', x10', rfl⟩
    show l_law_1c ⟨[some (.val (scrOf ns)), some (.val (.int i)), x2, x3, x4, x5, x6, x7, (o8.map SV.val), x9, x10, none, none, none], []⟩ = _
    unfold l_law_1c
    rw [seq_nx q1, seq_nx q2]
    rfl)
  have g1 : Gt 21 0 21 5 0 := ⟨by omega, by omega, by omega, by omega, by omega, by omega, by omega, by omega⟩
  have g2 : Gt 21 3 21 1 0 := ⟨by omega, by omega, by omega, by omega, by omega, by omega, by omega, by omega⟩
  have gs : ∀ p ∈ [gt 0 21 5 0, gt 3 21 1 0], ∃ l h s r, p = gt l h s r ∧ Gt 21 l h s r := fun p hp => by
    rw [List.mem_cons, List.mem_singleton] at hp
    rcases hp with rfl | rfl
    · exact ⟨_, _, _, _, rfl, g1⟩
    · exact ⟨_, _, _, _, rfl, g2⟩
  have c0 := e_made (t := 21) (by omega) gs
  have ks1 : Kst ([gt 0 21 5 0, gt 3 21 1 0].map stx) ((0 : Nat) : Int) 0 21 5 0 := Kst.of rfl
  have ks2 : Kst ([gt 0 21 5 0, gt 3 21 1 0].map stx) ((1 : Nat) : Int) 3 21 1 0 := Kst.of rfl
  have c1 := e_count_waves (n := 21) (bars := []) (W := 4) ks1 g1.gs (by omega)
  have c2 := e_count_waves (n := 21) (bars := []) (W := 4) ks2 g2.gs (by omega)
  have c3 := e_full_waves (n := 21) (bars := []) (W := 4) ks2 g2.gs (by omega)
  have c4 := e_full_waves (n := 21) (bars := []) (W := 4) ks1 g1.gs (by omega)
  rw [show wavesWith 0 21 5 0 4 = 5 by decide +kernel] at c1
  rw [show wavesWith 3 21 1 0 4 = 6 by decide +kernel] at c2
  rw [show fullIn 3 21 1 0 4 21 = 5 by decide +kernel] at c3
  rw [show fullIn 0 21 5 0 4 21 = 1 by decide +kernel] at c4
  simp only [List.map_cons, List.map_nil] at c0 c1 c2 c3 c4
  have i0 : ((0 : Nat) : Int) = 0 := rfl
  have i1 : ((1 : Nat) : Int) = 1 := rfl
  rw [i0] at c1 c4
  rw [i1] at c2 c3
  have en := eqB_ints [5, 6, 5, 1] [5, 6, 5, 1]
  rw [decide_eq_true rfl] at en
  simp only [List.map_cons, List.map_nil] at en
  have q1 : q_law_1 ⟨[some (.val (scrOf ns)), none, none, none, none, none, none, none, none, none, none, none, none, none], []⟩ = .nx ⟨[some (.val (scrOf ns)), x1, x2, x3, x4, x5, x6, x7, (o8.map SV.val), x9, x10, none, none, none], []⟩ := by
    have hm : (if (if ((ns.map PV.int).length : Int) < 10 then ((ns.map PV.int).length : Int) else 10) > 1 then (if ((ns.map PV.int).length : Int) < 10 then ((ns.map PV.int).length : Int) else 10) else 1) = max 1 (min 10 (ns.length : Int)) := by
      rw [List.length_map]
      split <;> split <;> omega
    clear g1 g2 gs c0 ks1 ks2 c1 c2 c3 c4 en i0 i1 hl
    unfold q_law_1
    simp only [scrOf] at e2 ⊢
    generalize max 1 (min 10 (ns.length : Int)) = z at *
    generalize (o8.map SV.val) = x8 at *
    iterate 4 (walk_at "ev"; try walk_at "evs")
  have q2 : q_law_2 ⟨[some (.val (scrOf ns)), x1, x2, x3, x4, x5, x6, x7, (o8.map SV.val), x9, x10, none, none, none], []⟩ = .nx ⟨[some (.val (scrOf ns)), x1, x2, x3, x4, x5, x6, x7, (o8.map SV.val), x9, x10, some (.val (kern 21 [stx (gt 0 21 5 0), stx (gt 3 21 1 0)] [])), none, none], []⟩ := by
    clear g1 g2 gs ks1 ks2 c1 c2 c3 c4 en i0 i1 e2 q1 hl
    unfold q_law_2
    generalize scrOf ns = sc at *
    generalize (o8.map SV.val) = x8 at *
    iterate 5 (walk_at "ev"; try walk_at "evs")
  have q3 : q_law_3 ⟨[some (.val (scrOf ns)), x1, x2, x3, x4, x5, x6, x7, (o8.map SV.val), x9, x10, some (.val (kern 21 [stx (gt 0 21 5 0), stx (gt 3 21 1 0)] [])), none, none], []⟩ = .nx ⟨[some (.val (scrOf ns)), x1, x2, x3, x4, x5, x6, x7, (o8.map SV.val), x9, x10, some (.val (kern 21 [stx (gt 0 21 5 0), stx (gt 3 21 1 0)] [])), some (.val (.lst [.int 5, .int 6, .int 5, .int 1])), none], []⟩ := by
    clear g1 g2 gs ks1 ks2 c0 en i0 i1 e2 q1 q2 hl
    unfold q_law_3
    generalize scrOf ns = sc at *
    generalize (o8.map SV.val) = x8 at *
    generalize kern 21 [stx (gt 0 21 5 0), stx (gt 3 21 1 0)] [] = kn at *
    iterate 6 (walk_at "ev"; try walk_at "evs")
  have q4 : q_law_4 ⟨[some (.val (scrOf ns)), x1, x2, x3, x4, x5, x6, x7, (o8.map SV.val), x9, x10, some (.val (kern 21 [stx (gt 0 21 5 0), stx (gt 3 21 1 0)] [])), some (.val (.lst [.int 5, .int 6, .int 5, .int 1])), none], []⟩ = .rt (.bl true) ⟨[some (.val (scrOf ns)), x1, x2, x3, x4, x5, x6, x7, (o8.map SV.val), x9, x10, some (.val (kern 21 [stx (gt 0 21 5 0), stx (gt 3 21 1 0)] [])), some (.val (.lst [.int 5, .int 6, .int 5, .int 1])), none], []⟩ := by
    clear g1 g2 gs ks1 ks2 c0 c1 c2 c3 c4 i0 i1 e2 q1 q2 q3 hl
    unfold q_law_4
    generalize scrOf ns = sc at *
    generalize (o8.map SV.val) = x8 at *
    generalize kern 21 [stx (gt 0 21 5 0), stx (gt 3 21 1 0)] [] = kn at *
    iterate 5 (walk_at "ev"; try walk_at "evs")
  unfold m_law
  rw [g_law_eq]
  simp only [mOf, start0, List.map_cons, List.map_nil, List.length_cons, List.length_nil, Nat.reduceAdd, Nat.reduceSub, List.replicate, List.cons_append, List.nil_append]
  rw [seq_nx q1, seq_nx q2, seq_nx q3, seq_rt q4]
  rfl
end K39

open PySem PySem.W PyProof.Rows
set_option maxRecDepth 100000 in
set_option maxHeartbeats 0 in
theorem PySem.Challenge.cw_stridelanes_k39_waves_by_lanes_holds : PySem.Challenge.rw_stridelanes_k39_waves_by_lanes.Holds := by
  w_on; o_law; k_head; (case hw => w_witness2)
  k_fill
  refine PL.walk_ofG (l := PySem.Challenge.rw_stridelanes_k39_waves_by_lanes) (n := 63) (k := 7) (x := "script") (Cn := fun w => L2.CX PySem.Challenge.rw_stridelanes_k39_waves_by_lanes.prog w) (sp := fun w => PL.spX _ K39.m_law) rfl (by decide) rfl ⟨rfl, by decide, by decide⟩ (fun w h Y => PySem.W.kIn_of Y) ?F (fun w H a ns hl hO hS => PL.law_sp K39.law_true hl hS) (fun w H s e s' h => PL.no_cx h)
  case F =>
    intro w mg fa h KX G hmg
    refine' K39.all_mk KX G hmg ?aC_Kernel ?a0 ?l0 ?c0 ?k0 ?a1 ?l1 ?c1 ?k1 ?a2 ?l2 ?c2 ?k2 ?a3 ?l3 ?c3 ?k3 ?a4 ?l4 ?c4 ?k4 ?m4 ?o4 ?a5 ?l5 ?c5 ?k5 ?a6 ?l6 ?c6 ?k6 ?a7 ?l7 ?c7 ?k7 ?a8 ?l8 ?c8 ?k8 ?a9 ?l9 ?c9 ?k9 ?a10 ?l10 ?c10 ?k10 ?a11 ?l11 ?c11 ?k11 ?a12 ?l12 ?c12 ?k12 ?a13 ?l13 ?c13 ?k13 ?a14 ?l14 ?c14 ?k14 ?a15 ?l15 ?c15 ?k15 ?a16 ?l16 ?c16 ?k16 ?a17 ?l17 ?c17 ?k17 ?a18 ?l18 ?c18 ?k18 ?a19 ?l19 ?c19 ?k19 ?a20 ?l20 ?c20 ?k20 ?a21 ?l21 ?c21 ?k21 ?a22 ?l22 ?c22 ?k22 ?a23 ?l23 ?c23 ?k23 ?a24 ?l24 ?c24 ?k24 ?a25 ?l25 ?c25 ?k25 ?a26 ?l26 ?c26 ?k26 ?a27 ?l27 ?c27 ?k27 ?a28 ?l28 ?c28 ?k28 ?z_abs ?z_all ?z_enumerate ?z_int ?z_len ?z_max ?z_min ?z_range ?z_tuple ?n_MOST_LETTERS ?n_LETTERS ?n_MOST_WAVE ?pg_Kernel ?hd_Kernel ?po_Kernel ?sa_Kernel ?mi_Kernel ?kc_Kernel ?fi_Kernel ?na_Kernel_lane_count ?na_Kernel_kept_statements ?na_Kernel_kept_barriers ?aD_ITEMS ?lD_ITEMS ?tD_ITEMS ?wD_ITEMS ?kD_ITEMS_0 ?kD_ITEMS_1 ?kD_ITEMS_2 ?aD_PLACES ?lD_PLACES ?tD_PLACES ?wD_PLACES ?kD_PLACES_0 ?uD_PLACES_0 ?sD_PLACES_0 ?vD_PLACES_0 ?kD_PLACES_1 ?uD_PLACES_1 ?sD_PLACES_1 ?vD_PLACES_1 ?kD_PLACES_2 ?uD_PLACES_2 ?sD_PLACES_2 ?vD_PLACES_2
    (case aC_Kernel => k_is); (case a0 => k_is); (case l0 => k_is); (case c0 => k_is); (case k0 => k_is); (case a1 => k_is); (case l1 => k_is); (case c1 => k_is); (case k1 => k_is); (case a2 => k_is); (case l2 => k_is); (case c2 => k_is); (case k2 => k_is); (case a3 => k_is); (case l3 => k_is); (case c3 => k_is); (case k3 => k_is); (case a4 => k_is); (case l4 => k_is); (case c4 => k_is); (case k4 => k_is); (case m4 => k_is); (case o4 => k_is); (case a5 => k_is); (case l5 => k_is); (case c5 => k_is); (case k5 => k_is); (case a6 => k_is); (case l6 => k_is); (case c6 => k_is); (case k6 => k_is); (case a7 => k_is); (case l7 => k_is); (case c7 => k_is); (case k7 => k_is); (case a8 => k_is); (case l8 => k_is); (case c8 => k_is); (case k8 => k_is); (case a9 => k_is); (case l9 => k_is); (case c9 => k_is); (case k9 => k_is); (case a10 => k_is); (case l10 => k_is); (case c10 => k_is); (case k10 => k_is); (case a11 => k_is); (case l11 => k_is); (case c11 => k_is); (case k11 => k_is); (case a12 => k_is); (case l12 => k_is); (case c12 => k_is); (case k12 => k_is); (case a13 => k_is); (case l13 => k_is); (case c13 => k_is); (case k13 => k_is); (case a14 => k_is); (case l14 => k_is); (case c14 => k_is); (case k14 => k_is); (case a15 => k_is); (case l15 => k_is); (case c15 => k_is); (case k15 => k_is); (case a16 => k_is); (case l16 => k_is); (case c16 => k_is); (case k16 => k_is); (case a17 => k_is); (case l17 => k_is); (case c17 => k_is); (case k17 => k_is); (case a18 => k_is); (case l18 => k_is); (case c18 => k_is); (case k18 => k_is); (case a19 => k_is); (case l19 => k_is); (case c19 => k_is); (case k19 => k_is); (case a20 => k_is); (case l20 => k_is); (case c20 => k_is); (case k20 => k_is); (case a21 => k_is); (case l21 => k_is); (case c21 => k_is); (case k21 => k_is); (case a22 => k_is); (case l22 => k_is); (case c22 => k_is); (case k22 => k_is); (case a23 => k_is); (case l23 => k_is); (case c23 => k_is); (case k23 => k_is); (case a24 => k_is); (case l24 => k_is); (case c24 => k_is); (case k24 => k_is); (case a25 => k_is); (case l25 => k_is); (case c25 => k_is); (case k25 => k_is); (case a26 => k_is); (case l26 => k_is); (case c26 => k_is); (case k26 => k_is); (case a27 => k_is); (case l27 => k_is); (case c27 => k_is); (case k27 => k_is); (case a28 => k_is); (case l28 => k_is); (case c28 => k_is); (case k28 => k_is); (case z_abs => k_is); (case z_all => k_is); (case z_enumerate => k_is); (case z_int => k_is); (case z_len => k_is); (case z_max => k_is); (case z_min => k_is); (case z_range => k_is); (case z_tuple => k_is); (case n_MOST_LETTERS => k_is); (case n_LETTERS => k_is); (case n_MOST_WAVE => k_is); (case pg_Kernel => k_is); (case hd_Kernel => k_is); (case po_Kernel => k_is); (case sa_Kernel => k_is); (case mi_Kernel => k_is); (case kc_Kernel => k_is); (case fi_Kernel => k_is); (case na_Kernel_lane_count => k_is); (case na_Kernel_kept_statements => k_is); (case na_Kernel_kept_barriers => k_is); (case aD_ITEMS => k_is); (case lD_ITEMS => k_is); (case tD_ITEMS => rfl); (case wD_ITEMS => first | rfl | decide +kernel); (case kD_ITEMS_0 => k_is); (case kD_ITEMS_1 => k_is); (case kD_ITEMS_2 => k_is); (case aD_PLACES => k_is); (case lD_PLACES => k_is); (case tD_PLACES => rfl); (case wD_PLACES => first | rfl | decide +kernel); (case kD_PLACES_0 => k_is); (case uD_PLACES_0 => k_is); (case sD_PLACES_0 => first | decide | decide +kernel); (case vD_PLACES_0 => exact (.cons ⟨_, rfl⟩ .nil)); (case kD_PLACES_1 => k_is); (case uD_PLACES_1 => k_is); (case sD_PLACES_1 => first | decide | decide +kernel); (case vD_PLACES_1 => exact (.cons ⟨_, rfl⟩ (.cons ⟨_, rfl⟩ .nil))); (case kD_PLACES_2 => k_is); (case uD_PLACES_2 => k_is); (case sD_PLACES_2 => first | decide | decide +kernel); (case vD_PLACES_2 => exact (.cons ⟨_, rfl⟩ (.cons ⟨_, rfl⟩ (.cons ⟨_, rfl⟩ .nil))))
