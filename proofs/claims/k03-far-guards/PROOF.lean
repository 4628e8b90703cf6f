import PyProof.Rows.All
import Wide.All
import OpenK.AllK
import Wide.FinOn
import HandS.ForMost
import HandS.ForExc
import HandS.CallSlots
import HandS.Wide
import HandS.Flow
import HandS.Walk
import HandS.TupAny
import HandS.RaiseMore
import HandS.Conv
import HandS.Deep
import HandS.TryOnly
import HandS.Style
import PySem.Challenge.RW_stridelanes_k03_far_guards
set_option Elab.async false
set_option linter.all false
set_option maxRecDepth 100000
set_option maxHeartbeats 4000000
/-! PLG: promises of defs that are called where nothing is being shown (no repr runs around): what repr asks. -/
namespace PL
open PySem PySem.Spec PyProof.Rows L2

/-- as FnOk, at calls around which no guard of repr is open -/
structure FnG (P : Program) (w : World) (K : PySem.W.Frag) (mg : Str → Option Value) (base : Heap) (Cn : CXT) (k : Nat) (f : Addr) (fd : FuncData) (ps : List Str) (sp : Sp) : Prop where
  gl : ∀ vs H Q E, sp vs H Q E → vs.length = ps.length
  go : ∀ (A : Around) (outer : List Env) (s : Shared) (H : Hp) (args : Args) (us : List Value) (vs : List V) (Q : VK) (E : XK),
    Room k A → A.guards = some [] → Env0 P w K mg base A outer s H → BindsTo s fd args (ps.zip us) → Vals vs us → sp vs H Q E →
      codeAny (model P w) A (.call (.ref f) args) (CR Cn outer P w H s Q E) s
theorem FnG.mono {P : Program} {w : World} {K : PySem.W.Frag} {mg : Str → Option Value} {base : Heap} {Cn : CXT} {j k : Nat} {f : Addr} {fd : FuncData} {ps : List Str} {sp : Sp}
    (F : FnG P w K mg base Cn j f fd ps sp) (h : j ≤ k) : FnG P w K mg base Cn k f fd ps sp :=
  ⟨F.gl, fun A outer s H args us vs Q E room => F.go A outer s H args us vs Q E (room.mono h)⟩

section
variable {P : Program} {w : World} {K : PySem.W.Frag} {mg : Str → Option Value} {base : Heap}
/-- a def of the text keeps its promise -/
theorem fng_of {Cn : CXT} {k : Nat} {x qual : Str} {st : Stmt} {f : Addr} {fd : FuncData} {N ps : List Str} {sp : Sp} (F : Fun K x qual st f fd) (S : FnScope N ps (defScope st))
    (gl : ∀ vs H Q E, sp vs H Q E → vs.length = ps.length)
    (hbody : ∀ (cdv : Value) (A : Around) (outer : List Env) (s : Shared) (H : Hp) (vs : List V) (Q : VK) (E : XK), Room k (A.deeper (envOfC qual (defScope st) s.heap.objs.size f cdv)) →
      A.guards = some [] → sp vs H Q E → ∃ t, PSs (cxOf Cn P w K mg base N qual (defScope st) f cdv A outer s H E) (defBody st) t ∧ t { nx := fun _ H' => Q .non H', rt := Q } (start N vs) H) :
    FnG P w K mg base Cn (k + 1) f fd ps sp := by
  obtain ⟨oc, od, kV, doc, pm, an, cdv, ct, osl, rfl, lk, cod⟩ := F.ex
  refine ⟨gl, ?_⟩
  intro A outer s H args us vs Q E room gu e0 bnd rel hsp
  have hlen := gl _ _ _ _ hsp
  have inK : K.In s.heap := e0.mod.kin.keeps fun a u q => (e0.bs a u q).1
  have nolim : s.heap.NoLimit := e0.mod.nolimit.keeps fun a u q => (e0.bs a u q).1
  have kinds : ∀ y ∈ ps.zip us, (defScope st).names.lookup y.1 = some .local ∨
      ((defScope st).names.lookup y.1 = some .cell ∧ ((cellsFrom (s.heap.objs.size + 1) (defScope st).names []).lookup y.1).isSome = true) := by
    rintro ⟨n, v⟩ hy
    cases S.par n (List.of_mem_zip hy).1 with
    | inl z => exact .inl z
    | inr z => exact .inr ⟨z, PySem.W.cellsFrom_some _ _ _ (.inl z)⟩
  refine codeAny_call_function room.depth (inK _ _ lk) rfl S.co S.gen rfl (PySem.W.codeRec_of inK cod) (bnd _ _ _ _ ?_)
  refine wpAny_newFunctionEnv_cells S.kind kinds ?_
  intro env he s1 made
  subst he
  refine ⟨nolim.keeps made.toInCall.keep, codeAny_func ?_⟩
  obtain ⟨t, tr, tq⟩ := hbody cdv A outer s H vs Q E (room.deeper _) gu hsp
  have I0 := inv_start (CX := Cn) (E := E) S room.hd e0 hlen rel made
  refine wpAny_mono (tr.run [] s1 (start N vs) H _ I0 tq) ?_ fun e s' z => z
  intro fl s' end'
  cases fl with
  | brk => obtain ⟨_, _, _, z⟩ := end'; exact z.elim
  | cont => obtain ⟨_, _, _, z⟩ := end'; exact z.elim
  | next =>
    obtain ⟨σ', H', J, z⟩ := end'
    exact ⟨.non, H', J.os, J.bare, J.base, J.hok, rfl, z⟩
  | ret u =>
    obtain ⟨v, σ', H', J, rv, z⟩ := end'
    exact ⟨v, H', J.os, J.bare, J.base, J.hok, rv, z⟩
end
section
variable {X : Cx} {Cn : CXT} {k : Nat} {f : Addr} {fd : FuncData} {ps : List Str} {sp : Sp} {dvs : List V} {ds : List Value} {E : L2.St → XK} {x : Str} {p pos : Pos} {e : Expr} {es : List Expr} {t : TA}
theorem cr_ep {pins : List (Addr × Obj)} {σ : L2.St} {H : Hp} {s : Shared} {Q : VK} {D : XK} (hx : PassesAt Cn X σ D) (I : Inv X pins σ H s) {r : Result} {s' : Shared} (h : CR Cn X.stack X.prog X.w H s Q D r s') :
    match r with
    | .ok (.ret u) => EP X pins σ Q u s'
    | .ok _ => False
    | .error er => X.xe er s' := by
  cases r with
  | error er => exact hx pins H s er s' I h
  | ok fl => cases fl with
    | ret u => exact I.after h
    | next => exact h
    | brk => exact h
    | cont => exact h
theorem run_fng {pins : List (Addr × Obj)} {σ : L2.St} {H : Hp} {s : Shared} {Q : VK} {us : List Value} {vs : List V} (F : FnG X.prog X.w X.K X.mg X.base Cn k f fd ps sp) (room : Room k X.A) (gu : X.A.guards = some [])
    (hb : Binds X.K fd ps ds) (hd : Vals dvs ds) (hx : PassesAt Cn X σ (E σ)) (I : Inv X pins σ H s) (rel : Vals vs us) (h : sp (vs ++ dvs) H Q (E σ)) :
    wpAny (model X.prog X.w) X.A (call (.ref f) us) (EP X pins σ Q) X.xe s := by
  have rel2 : Vals (vs ++ dvs) (us ++ ds) := rel.append hd
  have n2 : (us ++ ds).length = ps.length := by rw [← rel2.length]; exact F.gl _ _ _ _ h
  refine wpAny_call (codeAny_mono (F.go X.A X.stack s H ⟨us, []⟩ (us ++ ds) (vs ++ dvs) Q (E σ) room gu I.env0 (hb s us I.kIn n2) rel2 h) ?_)
  intro r s' z
  have q := cr_ep hx I z
  cases r with
  | error er => exact q
  | ok fl => cases fl <;> first | exact q | exact q.elim
def tCallG (sp : Sp) (dvs : List V) (E : L2.St → XK) (t : TA) : TE := fun σ H Q => t σ H fun vs H1 => sp (vs ++ dvs) H1 Q (E σ)
theorem pe_callG (F : FnG X.prog X.w X.K X.mg X.base Cn k f fd ps sp) (room : Room k X.A) (gu : X.A.guards = some []) (hg : Gl X x) (hm : X.mg x = some (.ref f)) (hk : PySem.W.keepIn X.K (.ref f) = true)
    (hb : Binds X.K fd ps ds) (hd : Vals dvs ds) (hx : ∀ σ, PassesAt Cn X σ (E σ)) (ha : PA X (e :: es) t) (hdb : (x == ("__debug__" : Str)) = false)
    (he : starEach (e :: es) X.env = (false, eval e X.env) :: starEach es X.env) (hpl : (backTo pos (starEach es X.env)).any (·.1) = false) :
    PE X (.Call (.Name x p) (e :: es) [] pos) (tCallG sp dvs E t) := by
  refine ⟨?_⟩
  intro pins s σ H Q I h
  refine wpAny_Call_Name_kw (ld_glob I hg hm ?_ hdb)
  refine PySem.W.callWith_K (h₀ := X.base) I.ok.mod.kin hk (thn (ha.run pos pins s σ H _ I h) ?_) he hpl
  rintro us s1 ⟨vs, H1, I1, rel, q⟩
  exact ⟨I1.kIn, run_fng F room gu hb hd (hx σ) I1 rel q⟩
/-- f(), all defaults or no parameters -/
theorem pe_callG0 (F : FnG X.prog X.w X.K X.mg X.base Cn k f fd ps sp) (room : Room k X.A) (gu : X.A.guards = some []) (hg : Gl X x) (hm : X.mg x = some (.ref f)) (hk : PySem.W.keepIn X.K (.ref f) = true)
    (hb : Binds X.K fd ps ds) (hd : Vals dvs ds) (hx : ∀ σ, PassesAt Cn X σ (E σ)) (hdb : (x == ("__debug__" : Str)) = false) : PE X (.Call (.Name x p) [] [] pos) (tCallG sp dvs E tNil) := by
  refine ⟨?_⟩
  intro pins s σ H Q I h
  refine wpAny_Call_Name_kw (ld_glob I hg hm ?_ hdb)
  exact PySem.W.callWith_K0 I.kIn hk (run_fng (us := []) F room gu hb hd (hx σ) I .nil h)
/-- with keywords -/
theorem run_fngK {ks : List Str} {g : List Value → List Value → List Value} {gV : List V → List V → List V} {pins : List (Addr × Obj)} {σ : L2.St} {H : Hp} {s : Shared} {Q : VK} {us ws : List Value} {vs zs : List V}
    (F : FnG X.prog X.w X.K X.mg X.base Cn k f fd ps sp) (room : Room k X.A) (gu : X.A.guards = some []) (hb : KBinds X.K fd ps ks g gV) (hx : PassesAt Cn X σ (E σ)) (I : Inv X pins σ H s) (rel : Vals vs us) (relz : Vals zs ws)
    (h : sp (gV vs zs) H Q (E σ)) : wpAny (model X.prog X.w) X.A (call (.ref f) us (ks.zip ws)) (EP X pins σ Q) X.xe s := by
  have rel2 := hb.rel rel relz
  have n2 : (g us ws).length = ps.length := by rw [← rel2.length]; exact F.gl _ _ _ _ h
  refine wpAny_call (codeAny_mono (F.go X.A X.stack s H ⟨us, ks.zip ws⟩ (g us ws) (gV vs zs) Q (E σ) room gu I.env0 (hb.to s us ws I.kIn n2) rel2 h) ?_)
  intro r s' z
  have q := cr_ep hx I z
  cases r with
  | error er => exact q
  | ok fl => cases fl <;> first | exact q | exact q.elim
def tCallGK (sp : Sp) (gV : List V → List V → List V) (E : L2.St → XK) (t tk : TA) : TE := fun σ H Q => t σ H fun vs H1 => tk σ H1 fun zs H2 => sp (gV vs zs) H2 Q (E σ)
theorem pe_callGK {ks : List Str} {g : List Value → List Value → List Value} {gV : List V → List V → List V} {kws : List Keyword} {tk : TA} (F : FnG X.prog X.w X.K X.mg X.base Cn k f fd ps sp) (room : Room k X.A) (gu : X.A.guards = some [])
    (hg : Gl X x) (hm : X.mg x = some (.ref f)) (hk : PySem.W.keepIn X.K (.ref f) = true) (hb : KBinds X.K fd ps ks g gV) (hx : ∀ σ, PassesAt Cn X σ (E σ)) (ha : PA X (e :: es) t) (hkw : PK X kws tk)
    (hall : (backToKw pos (keywordEach kws X.env)).all (·.1.isSome) = true) (hks : (backToKw pos (keywordEach kws X.env)).filterMap (·.1) = ks) (hdb : (x == ("__debug__" : Str)) = false)
    (he : starEach (e :: es) X.env = (false, eval e X.env) :: starEach es X.env) (hpl : ((backTo pos (starEach (e :: es) X.env)).any (·.1) || (backToKw pos (keywordEach kws X.env)).any (·.1.isNone)) = false) :
    PE X (.Call (.Name x p) (e :: es) kws pos) (tCallGK sp gV E t tk) := by
  refine ⟨?_⟩
  intro pins s σ H Q I h
  refine wpAny_Call_Name_kw (ld_glob I hg hm ?_ hdb)
  refine PySem.W.callWith_KW (h₀ := X.base) I.ok.mod.kin hk hall (thn (ha.run pos pins s σ H _ I h) ?_) hpl he
  rintro us s1 ⟨vs, H1, I1, rel, q⟩
  refine thn (hkw.run pos pins s1 σ H1 _ I1 q) ?_
  rintro ws s2 ⟨zs, H2, I2, relz, q2⟩
  refine ⟨I2.kIn, ?_⟩
  rw [hks]
  exact run_fngK F room gu hb (hx σ) I2 rel relz q2
end

/-! ### the law itself -/
/-- the heap as the law finds it: the script alone is tracked, and locked -/
def hp0 (a : Addr) (o : Obj) (xs : List V) : Hp := fun b => if b = a then some (.frz o (.lst xs)) else none
theorem law_callG {P : Program} {w : World} {K : PySem.W.Frag} {mg mb : Str → Option Value} {Cn : CXT} {k : Nat} {fa a : Addr} {fd : FuncData} {x : Str} {sp : Sp} {s : Shared} {vs : List Value} {ns : List Int}
    (inK : K.In s.heap) (nm : s.heap.Ns mainGlobals mg) (nb : s.heap.Ns builtinsNs mb) (hbb : ∀ y : Str, y ≠ "__name__" → mb y = bootBuiltins y) (lim : s.heap.NoLimit) (gen0 : s.gens = #[])
    (obj : s.heap.get? a = some { cls := .type "list", data := .seq vs.toArray }) (isn : IntsAre vs ns) (small : ns.length ≤ sizeLine) (room : Room k callerA)
    (F : ∀ base : Heap, K.In base → base.Ns mainGlobals mg → FnG P w K mg base Cn k fa fd [x] sp) (bnd : ∀ (s : Shared) (u : Value), BindsTo s fd ⟨[u], []⟩ [(x, u)])
    (hsp : ∀ H : Hp, Only H → SqL K H a (ns.map V.int) → sp [.ref a] H (fun v _ => v = .bl true) fun _ _ _ => False)
    (hCn : ∀ H e s', Cn [] H s (fun _ _ _ => False) e s' → False) :
    codeAny (model P w) callerA (.call (.ref fa) ⟨[.ref a], []⟩) (fun r s' => r = .ok (.ret (.bool true)) ∧ OldK s.heap s'.heap ∧ s'.os = s.os ∧ AllBare s'.gens) s := by
  have rel : Vals (ns.map V.int) vs := L2.vals_ints isn
  have go : ∀ H : Hp, Only H → SqL K H a (ns.map V.int) → HOk P w H s.heap → (∀ b u, H b = some u → b = a ∧ K.lookup a = none) →
      codeAny (model P w) callerA (.call (.ref fa) ⟨[.ref a], []⟩) (fun r s' => r = .ok (.ret (.bool true)) ∧ OldK s.heap s'.heap ∧ s'.os = s.os ∧ AllBare s'.gens) s := by
    intro H only sq held one
    have notDict : ∀ {b : Addr} {o : Obj} {es : Array DictEntry} {ep : Nat}, s.heap.get? b = some o → o.data = .dict es ep → H b = none := by
      intro b o es ep e d
      cases q : H b with
      | none => rfl
      | some u =>
        rw [(one b u q).1, obj] at e
        cases e
        cases d
    have ns' : ∀ {b : Addr} {m : Str → Option Value}, s.heap.Ns b m → (hidT s.heap H).Ns b m := by
      rintro b m ⟨o, es, ep, e, d, r⟩
      exact ⟨o, es, ep, hidT_get e (notDict e d), d, r⟩
    have inB : K.In (hidT s.heap H) := by
      intro b o e
      refine hidT_get (inK b o e) ?_
      cases q : H b with
      | none => rfl
      | some u =>
        obtain ⟨e1, e2⟩ := one b u q
        rw [e1, e2] at e
        cases e
    have md : Mod K mg (hidT s.heap H) := ⟨inB, ns' nm, ⟨mb, ns' nb, hbb⟩, by obtain ⟨mc, c1, c2⟩ := lim; exact ⟨mc, ns' c1, c2⟩⟩
    have e0 : Env0 P w K mg (hidT s.heap H) callerA [] s H :=
      ⟨rfl, md, fun b o e => of_hidT e, Nat.le_of_eq (hidT_size _ _), trivial, fun b hb => by simp [frs] at hb, held, .of_eq gen0⟩
    refine codeAny_mono ((F _ inB (ns' nm)).go callerA [] s H ⟨[.ref a], []⟩ [.ref a] [.ref a] _ _ room rfl e0 (bnd s (.ref a)) (.cons rfl .nil) (hsp H only sq)) ?_
    intro r s' h
    cases r with
    | error e => exact (hCn H e s' h).elim
    | ok fl =>
      cases fl with
      | ret u =>
        obtain ⟨v, H', os, bare, un, held', rv, (q : v = .bl true)⟩ := h
        subst q
        cases rv
        refine ⟨rfl, OldK.of_keep ?_, os, bare⟩
        intro b o e
        cases q : H b with
        | none => exact un.keep b o e q (by simp [frs]) (by simp)
        | some u =>
          rcases only b with z | ⟨ob, xs, z⟩
          · rw [q] at z; cases z
          · obtain ⟨e1, _⟩ := held b _ z
            obtain ⟨e2, _⟩ := held' b _ (un.frzs b ob _ z)
            rw [e] at e1
            cases e1
            exact e2
      | next => exact False.elim h
      | brk => exact False.elim h
      | cont => exact False.elim h
  cases hk : K.lookup a with
  | some o =>
    have e := inK a o hk
    rw [obj] at e
    cases e
    refine go (fun _ => none) (fun _ => .inl rfl) (.inr ⟨_, vs.toArray, _, hk, rfl, rfl, rfl, ?_, by simpa using rel⟩) (fun b u z => nomatch z) (fun b u z => nomatch z)
    rw [List.size_toArray, isn.length]
    exact small
  | none =>
    have at_a : hp0 a { cls := .type "list", data := .seq vs.toArray } (ns.map V.int) a = some (.frz { cls := .type "list", data := .seq vs.toArray } (.lst (ns.map V.int))) := if_pos rfl
    have only_a : ∀ b u, hp0 a { cls := .type "list", data := .seq vs.toArray } (ns.map V.int) b = some u → b = a := fun b u z => by
      by_cases hb : b = a
      · exact hb
      · have z2 : (none : Option HO) = some u := (if_neg hb).symm.trans z
        cases z2
    refine go (hp0 a { cls := .type "list", data := .seq vs.toArray } (ns.map V.int)) (fun b => ?_) (.inl (.inr ⟨_, at_a⟩)) (fun b u z => ?_) fun b u z => ⟨only_a b u z, hk⟩
    · by_cases hb : b = a
      · exact .inr ⟨_, _, if_pos hb⟩
      · exact .inl (if_neg hb)
    · have hb := only_a b u z
      subst hb
      rw [at_a] at z
      cases z
      exact ⟨obj, by rw [List.length_map]; exact small, vs, _, rel, obj⟩
/-- the goal behind the head -/
theorem walk_ofG {l : PySem.W.OpenLaw} {n k : Nat} {q : Program} {loose : List Str} {XP : (Str → Option Value) → Heap → Prop} {YP : World → Heap → Prop} {d : DefRec} {K : Params → PySem.W.Frag} {Cn : World → CXT} {sp : World → Sp} {x : Str}
    (hn : l.most = some n) (hn2 : n ≤ sizeLine) (hdf : d.params.defaults = []) (room : Room k callerA) (hY : ∀ (w : World) (h : Heap), YP w h → (K w.params).In h)
    (F : ∀ (w : World) (mg : Str → Option Value) (fa : Addr) (h : Heap), (K w.params).In h → h.Ns mainGlobals mg → mg d.name = some (.ref fa) →
      ∃ fd : FuncData, (∀ (s : Shared) (u : Value), BindsTo s fd ⟨[u], []⟩ [(x, u)]) ∧ ∀ base : Heap, (K w.params).In base → base.Ns mainGlobals mg → FnG l.prog w (K w.params) mg base (Cn w) k fa fd [x] (sp w))
    (hsp : ∀ (w : World) (H : Hp) (a : Addr) (ns : List Int), ns.length ≤ n → Only H → SqL (K w.params) H a (ns.map V.int) → sp w [.ref a] H (fun v _ => v = .bl true) fun _ _ _ => False)
    (hCn : ∀ (w : World) (H : Hp) (s : Shared) (e : Value) (s' : Shared), Cn w [] H s (fun _ _ _ => False) e s' → False) : PySem.W.WalkO q loose XP YP l.row.toRowW d [] (fun f vs => PySem.call f vs) := by
  refine Att.attach_call hn hdf ?_
  intro w s0 s1 mg mb fa o pm cd doc a vs ns G Y ho hd hcd hmg hobj hints hlen hg
  have inK := hY w _ Y
  obtain ⟨fd, bnd, hF⟩ := F w mg fa _ inK G.T.g hmg
  exact law_callG inK G.T.g G.T.b G.T.builtins G.T.nolimit hg hobj hints (Nat.le_trans hlen hn2) room hF bnd (fun H hO hS => hsp w H a ns hlen hO hS) fun H e s' => hCn w H s1 e s'
end PL

/-! PL1: plain values over the hand layer: what stands for what, the state, the judgement of expressions. -/
namespace PL
open PySem PySem.Spec PyProof.Rows L2

/-- a plain value: data that nobody changes; scr: a list that may be read alone (the script) -/
inductive PV where
  | non | bl (b : Bool) | int (i : Int) | str (x : Str)
  | tup (l : List PV) | lst (l : List PV) | scr (l : List PV)
  | ins (c : Str) (fs : List (Str × PV))

/-- an object that is changed in place -/
inductive MO where
  | lst (l : List PV)
  | ins (c : Str) (fs : List (Str × PV))
  | dct (kvs : List (Key × PV))
  | bag (g : List Int) (left turn blend : Int)

/-- what a slot holds: a plain value, an object that this slot alone knows, or the k-th object that was lent to the def -/
inductive SV where
  | val (v : PV) | own (m : MO) | bor (k : Nat)

structure Stt where
  ro : List (Option SV)
  mu : List MO

structure Fx where
  K : PySem.W.Frag
  cl : Str → Addr
  nb : Nat
  be : Nat → Addr
  Bf : Nat → List Addr

mutual
inductive Rp (C : Fx) (F : Hp) : V → PV → Prop
  | non : Rp C F .non .non
  | bl (b : Bool) : Rp C F (.bl b) (.bl b)
  | int (i : Int) : Rp C F (.int i) (.int i)
  | str (x : Str) : Rp C F (.str x) (.str x)
  | tup {a : Addr} {xs : List V} {l : List PV} : SqT C.K F a xs → Rps C F xs l → Rp C F (.ref a) (.tup l)
  | lst {a : Addr} {xs : List V} {l : List PV} : F a = some (.lst xs) → Rps C F xs l → Rp C F (.ref a) (.lst l)
  | scr {a : Addr} {xs : List V} {l : List PV} : SqL C.K F a xs → Rps C F xs l → Rp C F (.ref a) (.scr l)
  | ins {a : Addr} {c : Str} {dx : Addr} {fs : List (Str × V)} {l : List (Str × PV)} : F a = some (.ins (C.cl c) dx fs) → Rpf C F fs l → Rp C F (.ref a) (.ins c l)
inductive Rps (C : Fx) (F : Hp) : List V → List PV → Prop
  | nil : Rps C F [] []
  | cons {v : V} {vs : List V} {p : PV} {ps : List PV} : Rp C F v p → Rps C F vs ps → Rps C F (v :: vs) (p :: ps)
inductive Rpf (C : Fx) (F : Hp) : List (Str × V) → List (Str × PV) → Prop
  | nil : Rpf C F [] []
  | cons {n : Str} {v : V} {vs : List (Str × V)} {p : PV} {ps : List (Str × PV)} : Rp C F v p → Rpf C F vs ps → Rpf C F ((n, v) :: vs) ((n, p) :: ps)
end

theorem sqT_mono {K : PySem.W.Frag} {H H' : Hp} {a : Addr} {xs : List V} (e : Same H H') (h : SqT K H a xs) : SqT K H' a xs := by
  rcases h with (h | ⟨o, h⟩) | h
  · exact .inl (.inl (e _ _ h))
  · exact .inl (.inr ⟨o, e _ _ h⟩)
  · exact .inr h

mutual
theorem Rp.mono {C : Fx} {F F' : Hp} (e : Same F F') : ∀ {v : V} {p : PV}, Rp C F v p → Rp C F' v p
  | _, _, .non => .non
  | _, _, .bl b => .bl b
  | _, _, .int i => .int i
  | _, _, .str x => .str x
  | _, _, .tup h r => .tup (sqT_mono e h) (Rps.mono e r)
  | _, _, .lst h r => .lst (e _ _ h) (Rps.mono e r)
  | _, _, .scr h r => .scr (e.seq h) (Rps.mono e r)
  | _, _, .ins h r => .ins (e _ _ h) (Rpf.mono e r)
theorem Rps.mono {C : Fx} {F F' : Hp} (e : Same F F') : ∀ {v : List V} {p : List PV}, Rps C F v p → Rps C F' v p
  | _, _, .nil => .nil
  | _, _, .cons h r => .cons (Rp.mono e h) (Rps.mono e r)
theorem Rpf.mono {C : Fx} {F F' : Hp} (e : Same F F') : ∀ {v : List (Str × V)} {p : List (Str × PV)}, Rpf C F v p → Rpf C F' v p
  | _, _, .nil => .nil
  | _, _, .cons h r => .cons (Rp.mono e h) (Rpf.mono e r)
end

section
variable {C : Fx} {F : Hp}
theorem Rps.length : ∀ {vs : List V} {ps : List PV}, Rps C F vs ps → vs.length = ps.length
  | _, _, .nil => rfl
  | _, _, .cons _ r => by rw [List.length_cons, List.length_cons, Rps.length r]
theorem Rps.get : ∀ {vs : List V} {ps : List PV} {i : Nat} {p : PV}, Rps C F vs ps → ps[i]? = some p → ∃ v, vs[i]? = some v ∧ Rp C F v p
  | _, _, _, _, .nil, e => by simp at e
  | _, _, 0, _, .cons r _, e => by simp at e; subst e; exact ⟨_, rfl, r⟩
  | _, _, i + 1, _, .cons _ t, e => by
    obtain ⟨v, h1, h2⟩ := Rps.get (i := i) t (by simpa using e)
    exact ⟨v, by simpa using h1, h2⟩
theorem Rps.getV : ∀ {vs : List V} {ps : List PV} {i : Nat} {v : V}, Rps C F vs ps → vs[i]? = some v → ∃ p, ps[i]? = some p ∧ Rp C F v p
  | _, _, _, _, .nil, e => by simp at e
  | _, _, 0, _, .cons r _, e => by simp at e; subst e; exact ⟨_, rfl, r⟩
  | _, _, i + 1, _, .cons _ t, e => by
    obtain ⟨v, h1, h2⟩ := Rps.getV (i := i) t (by simpa using e)
    exact ⟨v, by simpa using h1, h2⟩
theorem Rps.append : ∀ {xs ys : List V} {ps qs : List PV}, Rps C F xs ps → Rps C F ys qs → Rps C F (xs ++ ys) (ps ++ qs)
  | _, _, _, _, .nil, s => s
  | _, _, _, _, .cons r t, s => .cons r (Rps.append t s)
theorem Rps.take : ∀ {xs : List V} {ps : List PV} (n : Nat), Rps C F xs ps → Rps C F (xs.take n) (ps.take n)
  | _, _, 0, _ => .nil
  | _, _, _ + 1, .nil => .nil
  | _, _, n + 1, .cons r t => .cons r (Rps.take n t)
theorem Rps.drop : ∀ {xs : List V} {ps : List PV} (n : Nat), Rps C F xs ps → Rps C F (xs.drop n) (ps.drop n)
  | _, _, 0, r => r
  | _, _, _ + 1, .nil => .nil
  | _, _, n + 1, .cons _ t => Rps.drop n t
theorem Rps.set {v : V} {p : PV} (r : Rp C F v p) : ∀ {xs : List V} {ps : List PV} (n : Nat), Rps C F xs ps → Rps C F (xs.set n v) (ps.set n p)
  | _, _, _, .nil => .nil
  | _, _, 0, .cons _ t => .cons r t
  | _, _, n + 1, .cons q t => .cons q (Rps.set r n t)
theorem Rps.reverse {xs : List V} {ps : List PV} (r : Rps C F xs ps) : Rps C F xs.reverse ps.reverse := by
  induction r using Rps.rec (motive_1 := fun _ _ _ => True) (motive_3 := fun _ _ _ => True) with
  | nil => exact .nil
  | cons h _ _ ih =>
    rw [List.reverse_cons, List.reverse_cons]
    exact Rps.append ih (.cons h .nil)
  | _ => trivial
theorem Rps.ints : ∀ {vs : List V} {ns : List Int}, Rps C F vs (ns.map PV.int) → vs = ns.map V.int
  | [], [], _ => rfl
  | _ :: _, n :: ns, .cons (.int _) r => by rw [List.map_cons, Rps.ints (ns := ns) r]
theorem Rps.of_ints : ∀ (ns : List Int), Rps C F (ns.map V.int) (ns.map PV.int)
  | [] => .nil
  | n :: ns => .cons (.int n) (Rps.of_ints ns)
end

/-- where a changeable object stands: p its address, fp all addresses that belong to it -/
def MAt (C : Fx) (F H : Hp) (p : Addr) (fp : List Addr) : MO → Prop
  | .lst l => fp = [p] ∧ ∃ xs, H p = some (.lst xs) ∧ Rps C F xs l
  | .ins c l => fp = [p] ∧ ∃ dx fs, H p = some (.ins (C.cl c) dx fs) ∧ Rpf C F fs l
  | .dct kvs => fp = [p] ∧ ∃ ks : List (Key × V), H p = some (.dK ks) ∧ ks.map (·.1) = kvs.map (·.1) ∧ Rps C F (ks.map (·.2)) (kvs.map (·.2))
  | .bag g l t b => ∃ q, fp = [p, q] ∧ p ≠ q ∧ H p = some (.dK [(.inr "great", .ref q), (.inr "left", .int l), (.inr "turn", .int t), (.inr "blend", .int b)]) ∧ H q = some (.lst (g.map V.int))
theorem MAt.mem {C : Fx} {F H : Hp} {p : Addr} {fp : List Addr} {m : MO} (h : MAt C F H p fp m) : p ∈ fp := by
  cases m with
  | lst l => rw [h.1]; exact List.mem_cons_self
  | ins c l => rw [h.1]; exact List.mem_cons_self
  | dct l => rw [h.1]; exact List.mem_cons_self
  | bag g l t b => obtain ⟨q, e, _⟩ := h; rw [e]; exact List.mem_cons_self
/-- the plain part may grow, the object's own part must stay -/
theorem MAt.keep {C : Fx} {F F' H H' : Hp} {p : Addr} {fp : List Addr} {m : MO} (h : MAt C F H p fp m) (e : Same F F') (k : ∀ b o, b ∈ fp → H b = some o → H' b = some o) : MAt C F' H' p fp m := by
  cases m with
  | lst l =>
    obtain ⟨rfl, xs, h1, h2⟩ := h
    exact ⟨rfl, xs, k _ _ List.mem_cons_self h1, h2.mono e⟩
  | ins c l =>
    obtain ⟨rfl, dx, fs, h1, h2⟩ := h
    exact ⟨rfl, dx, fs, k _ _ List.mem_cons_self h1, h2.mono e⟩
  | dct l =>
    obtain ⟨rfl, ks, h1, h2, h3⟩ := h
    exact ⟨rfl, ks, k _ _ List.mem_cons_self h1, h2, h3.mono e⟩
  | bag g l t b =>
    obtain ⟨q, rfl, n, h1, h2⟩ := h
    exact ⟨q, rfl, n, k _ _ List.mem_cons_self h1, k _ _ (List.mem_cons_of_mem _ List.mem_cons_self) h2⟩
theorem MAt.there {C : Fx} {F H : Hp} {p : Addr} {fp : List Addr} {m : MO} (h : MAt C F H p fp m) : ∀ b, b ∈ fp → H b ≠ none := by
  intro b hb
  cases m with
  | lst l =>
    obtain ⟨rfl, xs, h1, h2⟩ := h
    rw [List.mem_singleton] at hb
    subst hb; rw [h1]; simp
  | ins c l =>
    obtain ⟨rfl, dx, fs, h1, h2⟩ := h
    rw [List.mem_singleton] at hb
    subst hb; rw [h1]; simp
  | dct l =>
    obtain ⟨rfl, ks, h1, h2, h3⟩ := h
    rw [List.mem_singleton] at hb
    subst hb; rw [h1]; simp
  | bag g l t bb =>
    obtain ⟨q, rfl, n, h1, h2⟩ := h
    rcases List.mem_cons.mp hb with e | hb
    · subst e; rw [h1]; simp
    · rw [List.mem_singleton] at hb
      subst hb; rw [h2]; simp

/-- the state is held: F the plain part of the heap, A what the slots own -/
structure OkF (C : Fx) (F : Hp) (A : Nat → List Addr) (H : Hp) (σ : L2.St) (s : Stt) : Prop where
  len : σ.length = s.ro.length
  sub : Same F H
  val : ∀ (i : Nat) (v : PV), s.ro[i]? = some (some (SV.val v)) → ∃ u, σ[i]? = some (some u) ∧ Rp C F u v
  own : ∀ (i : Nat) (m : MO), s.ro[i]? = some (some (SV.own m)) → ∃ p, σ[i]? = some (some (.ref p)) ∧ MAt C F H p (A i) m
  nb : s.mu.length = C.nb
  lent : ∀ (i k : Nat), s.ro[i]? = some (some (SV.bor k)) → σ[i]? = some (some (V.ref (C.be k))) ∧ k < C.nb
  bor : ∀ (k : Nat) (m : MO), s.mu[k]? = some m → MAt C F H (C.be k) (C.Bf k) m
  free : ∀ i b, b ∈ A i → F b = none ∧ H b ≠ none
  dis : ∀ i j b, b ∈ A i → b ∈ A j → i = j
  freeB : ∀ k b, k < C.nb → b ∈ C.Bf k → F b = none ∧ ∀ i, b ∉ A i
  disB : ∀ k j b, k < C.nb → j < C.nb → b ∈ C.Bf k → b ∈ C.Bf j → k = j

def OwnA (A : Nat → List Addr) (b : Addr) : Prop := ∃ i, b ∈ A i
def Bor (C : Fx) (b : Addr) : Prop := ∃ k, k < C.nb ∧ b ∈ C.Bf k

/-- what a piece of code may have done -/
structure Step (C : Fx) (F : Hp) (A : Nat → List Addr) (H F' : Hp) (A' : Nat → List Addr) (H' : Hp) : Prop where
  s1 : Same F F'
  s2 : ∀ b, F' b ≠ none → F b ≠ none ∨ H b = none ∨ OwnA A b
  s3 : ∀ b, OwnA A' b → OwnA A b ∨ H b = none
  s4 : ∀ b o, H b = some o → ¬ OwnA A b → ¬ Bor C b → H' b = some o
  s5 : ∀ b, H b ≠ none → H' b ≠ none
theorem Step.refl {C : Fx} {F H : Hp} {A : Nat → List Addr} : Step C F A H F A H :=
  ⟨fun _ _ h => h, fun _ h => .inl h, fun _ h => .inl h, fun _ _ h _ _ => h, fun _ h => h⟩
theorem Step.trans {C : Fx} {F F1 F2 H H1 H2 : Hp} {A A1 A2 : Nat → List Addr} (a : Step C F A H F1 A1 H1) (b : Step C F1 A1 H1 F2 A2 H2) : Step C F A H F2 A2 H2 where
  s1 := a.s1.trans b.s1
  s2 := fun c h => by
    rcases b.s2 c h with q | q | q
    · exact a.s2 c q
    · refine .inr (.inl ?_)
      cases e : H c with
      | none => rfl
      | some o => exact absurd q (a.s5 c (by rw [e]; simp))
    · exact .inr ((a.s3 c q).symm)
  s3 := fun c h => by
    rcases b.s3 c h with q | q
    · exact a.s3 c q
    · refine .inr ?_
      cases e : H c with
      | none => rfl
      | some o => exact absurd q (a.s5 c (by rw [e]; simp))
  s4 := fun c o h n m => by
    refine b.s4 c o (a.s4 c o h n m) (fun q => ?_) m
    rcases a.s3 c q with z | z
    · exact n z
    · rw [h] at z; cases z
  s5 := fun c h => b.s5 c (a.s5 c h)

/-- what an expression comes to -/
inductive Res (α : Type) where
  | ok (a : α) (s : Stt) | ex (c : Str) (v : PV) (s : Stt) | stuck
def Res.bind {α β : Type} : Res α → (α → Stt → Res β) → Res β
  | .ok a s, f => f a s
  | .ex c v s, _ => .ex c v s
  | .stuck, _ => .stuck
@[simp] theorem Res.bind_ok {α β : Type} (a : α) (s : Stt) (f : α → Stt → Res β) : (Res.ok a s).bind f = f a s := rfl
@[simp] theorem Res.bind_ex {α β : Type} (c : Str) (v : PV) (s : Stt) (f : α → Stt → Res β) : (Res.ex c v s : Res α).bind f = .ex c v s := rfl
@[simp] theorem Res.bind_stuck {α β : Type} (f : α → Stt → Res β) : (Res.stuck : Res α).bind f = .stuck := rfl
def Res.opt {α : Type} (s : Stt) : Option α → Res α
  | some a => .ok a s
  | none => .stuck

@[simp] theorem Res.opt_some {α : Type} (a : α) (s : Stt) : Res.opt s (some a) = .ok a s := rfl
@[simp] theorem Res.opt_none {α : Type} (s : Stt) : Res.opt s (none : Option α) = .stuck := rfl
/-- an exception of a class of the program: its dict holds the value -/
def XAt (C : Fx) (F H : Hp) (d : Addr) (v : PV) : Prop := ∃ u, H d = some (.xd [(("value" : Str), u)]) ∧ Rp C F u v

def Post {α β : Type} (C : Fx) (W : WX) (R : Hp → Hp → β → α → Prop) (F : Hp) (A : Nat → List Addr) (H : Hp) (σ : L2.St) (r : Res α) (Q : β → Hp → Prop) : Prop :=
  match r with
  | .ok a s => ∀ v F' A' H', OkF C F' A' H' σ s → Step C F A H F' A' H' → R F' H' v a → Q v H'
  | .ex c p s => ∀ d F' A' H', OkF C F' A' H' σ s → Step C F A H F' A' H' → XAt C F' H' d p → W (.ref (C.cl c)) (some d) σ H'
  | .stuck => False
theorem Post.after {α β : Type} {C : Fx} {W : WX} {R : Hp → Hp → β → α → Prop} {F F1 H H1 : Hp} {A A1 : Nat → List Addr} {σ : L2.St} {r : Res α} {Q : β → Hp → Prop} (st : Step C F A H F1 A1 H1) (p : Post C W R F A H σ r Q) : Post C W R F1 A1 H1 σ r Q := by
  cases r with
  | ok a s => exact fun v F' A' H' o t q => p v F' A' H' o (st.trans t) q
  | ex c v s => exact fun d F' A' H' o t q => p d F' A' H' o (st.trans t) q
  | stuck => exact p
/-- the first part, then the rest -/
theorem Post.seq {α β γ δ : Type} {C : Fx} {W : WX} {R : Hp → Hp → β → α → Prop} {R2 : Hp → Hp → δ → γ → Prop} {F H : Hp} {A : Nat → List Addr} {σ : L2.St} {r : Res α} {f : α → Stt → Res γ} {Q : δ → Hp → Prop} {Q1 : β → Hp → Prop}
    (p : Post C W R2 F A H σ (r.bind f) Q)
    (k : ∀ a s v F' A' H', r = .ok a s → OkF C F' A' H' σ s → Step C F A H F' A' H' → R F' H' v a → Post C W R2 F' A' H' σ (f a s) Q → Q1 v H') : Post C W R F A H σ r Q1 := by
  cases r with
  | ok a s => exact fun v F' A' H' o t q => k a s v F' A' H' rfl o t q (p.after t)
  | ex c v s => exact p
  | stuck => exact p

abbrev RV (C : Fx) : Hp → Hp → V → PV → Prop := fun F _ v p => Rp C F v p
abbrev RVs (C : Fx) : Hp → Hp → List V → List PV → Prop := fun F _ v p => Rps C F v p
abbrev RB : Hp → Hp → Bool → Bool → Prop := fun _ _ b c => b = c

/-- e has the plain value f, and does to the state what f does -/
structure DV (X : Cx) (C : Fx) (W : WX) (e : Expr) (f : Stt → Res PV) : Prop where
  pr : ∃ te, PE X e te ∧ ∀ F A H σ s Q, OkF C F A H σ s → Post C W (RV C) F A H σ (f s) Q → te σ H Q
structure DA (X : Cx) (C : Fx) (W : WX) (es : List Expr) (f : Stt → Res (List PV)) : Prop where
  pr : ∃ te, PA X es te ∧ ∀ F A H σ s Q, OkF C F A H σ s → Post C W (RVs C) F A H σ (f s) Q → te σ H Q
structure DT (X : Cx) (C : Fx) (W : WX) (e : Expr) (f : Stt → Res Bool) : Prop where
  pr : ∃ te, PT X e te ∧ ∀ F A H σ s Q, OkF C F A H σ s → Post C W RB F A H σ (f s) Q → te σ H Q

/-- nothing was changed -/
theorem Post.now {α β : Type} {C : Fx} {W : WX} {R : Hp → Hp → β → α → Prop} {F H : Hp} {A : Nat → List Addr} {σ : L2.St} {s : Stt} {a : α} {v : β} {Q : β → Hp → Prop} (o : OkF C F A H σ s) (p : Post C W R F A H σ (.ok a s) Q) (r : R F H v a) : Q v H :=
  p v F A H o .refl r

/-- a new plain object -/
theorem OkF.alloc {C : Fx} {F H : Hp} {A : Nat → List Addr} {σ : L2.St} {s : Stt} {p : Addr} {o : HO} (k : OkF C F A H σ s) (hp : H p = none) : OkF C (upd F p o) A (upd H p o) σ s ∧ Step C F A H (upd F p o) A (upd H p o) := by
  have hF : F p = none := k.sub.free hp
  have sF : Same F (upd F p o) := fun b u e => by rw [upd_ne (ne_of_none e hF)]; exact e
  have sH : Same H (upd H p o) := fun b u e => by rw [upd_ne (ne_of_none e hp)]; exact e
  have nA : ∀ i, p ∉ A i := fun i z => (k.free i p z).2 hp
  have nB : ∀ q, q < C.nb → p ∉ C.Bf q := fun q hq z => by
    have hm : q < s.mu.length := by rw [k.nb]; exact hq
    exact (k.bor q s.mu[q] (List.getElem?_eq_getElem hm)).there p z hp
  refine ⟨⟨k.len, fun b u e => ?_, fun i v e => ?_, fun i m e => ?_, k.nb, k.lent, fun q m e => ?_, fun i b hb => ?_, k.dis, fun q b hq hb => ?_, k.disB⟩, ⟨sF, fun b hb => ?_, fun b hb => .inl hb, fun b u e _ _ => sH b u e, fun b hb => ?_⟩⟩
  · by_cases hb : b = p
    · subst hb; rw [upd_same] at e ⊢; exact e
    · rw [upd_ne hb] at e ⊢; exact k.sub b u e
  · obtain ⟨u, h1, h2⟩ := k.val i v e
    exact ⟨u, h1, h2.mono sF⟩
  · obtain ⟨u, h1, h2⟩ := k.own i m e
    exact ⟨u, h1, h2.keep sF fun b o _ => sH b o⟩
  · exact (k.bor q m e).keep sF fun b o _ => sH b o
  · obtain ⟨h1, h2⟩ := k.free i b hb
    have hne : b ≠ p := fun z => nA i (z ▸ hb)
    exact ⟨by rw [upd_ne hne]; exact h1, by rw [upd_ne hne]; exact h2⟩
  · obtain ⟨h1, h2⟩ := k.freeB q b hq hb
    have hne : b ≠ p := fun z => nB q hq (z ▸ hb)
    exact ⟨by rw [upd_ne hne]; exact h1, h2⟩
  · by_cases hbp : b = p
    · subst hbp; exact .inr (.inl hp)
    · rw [upd_ne hbp] at hb; exact .inl hb
  · by_cases hbp : b = p
    · subst hbp; rw [upd_same]; simp
    · rw [upd_ne hbp]; exact hb

/-- an operator by plain values -/
def OpD (C : Fx) (r : R2) (op : PV → PV → Option PV) : Prop :=
  ∀ F A H σ s x y p q z (Q : VK), OkF C F A H σ s → Rp C F x p → Rp C F y q → op p q = some z →
    (∀ v F' A' H', OkF C F' A' H' σ s → Step C F A H F' A' H' → Rp C F' v z → Q v H') → r x y H Q
def UnD (C : Fx) (r : V → Hp → VK → Prop) (op : PV → Option PV) : Prop :=
  ∀ F A H σ s x p z (Q : VK), OkF C F A H σ s → Rp C F x p → op p = some z →
    (∀ v F' A' H', OkF C F' A' H' σ s → Step C F A H F' A' H' → Rp C F' v z → Q v H') → r x H Q
def CallD (C : Fx) (r : List V → Hp → VK → Prop) (op : List PV → Option PV) : Prop :=
  ∀ F A H σ s x p z (Q : VK), OkF C F A H σ s → Rps C F x p → op p = some z →
    (∀ v F' A' H', OkF C F' A' H' σ s → Step C F A H F' A' H' → Rp C F' v z → Q v H') → r x H Q

theorem Post.opt {α β : Type} {C : Fx} {W : WX} {R : Hp → Hp → β → α → Prop} {F H : Hp} {A : Nat → List Addr} {σ : L2.St} {s : Stt} {a : Option α} {Q : β → Hp → Prop} (p : Post C W R F A H σ (Res.opt s a) Q) :
    ∃ z, a = some z ∧ ∀ v F' A' H', OkF C F' A' H' σ s → Step C F A H F' A' H' → R F' H' v z → Q v H' := by
  cases a with
  | none => exact False.elim p
  | some z => exact ⟨z, rfl, p⟩

def eBin (op : PV → PV → Option PV) (fa fb : Stt → Res PV) : Stt → Res PV := fun s => (fa s).bind fun p s1 => (fb s1).bind fun q s2 => Res.opt s2 (op p q)
def eUn (op : PV → Option PV) (fa : Stt → Res PV) : Stt → Res PV := fun s => (fa s).bind fun p s1 => Res.opt s1 (op p)
def eC (p : PV) : Stt → Res PV := fun s => .ok p s
def aNil : Stt → Res (List PV) := fun s => .ok [] s
def aCons (fa : Stt → Res PV) (fb : Stt → Res (List PV)) : Stt → Res (List PV) := fun s => (fa s).bind fun p s1 => (fb s1).bind fun q s2 => .ok (p :: q) s2
def eCallB (op : List PV → Option PV) (fa : Stt → Res (List PV)) : Stt → Res PV := fun s => (fa s).bind fun p s1 => Res.opt s1 (op p)
def eVar (i : Nat) : Stt → Res PV := fun s => match s.ro[i]? with
  | some (some (.val v)) => .ok v s
  | _ => .stuck

section
variable {X : Cx} {C : Fx} {W : WX} {a b : Expr} {pos : Pos} {fa fb : Stt → Res PV}
theorem opPost {r : R2} {op : PV → PV → Option PV} {ta tb : TE} (h : OpD C r op)
    (ha : ∀ F A H σ s Q, OkF C F A H σ s → Post C W (RV C) F A H σ (fa s) Q → ta σ H Q) (hb : ∀ F A H σ s Q, OkF C F A H σ s → Post C W (RV C) F A H σ (fb s) Q → tb σ H Q) :
    ∀ F A H σ s Q, OkF C F A H σ s → Post C W (RV C) F A H σ (eBin op fa fb s) Q → tOp r ta tb σ H Q := by
  intro F A H σ s Q o p
  refine ha F A H σ s _ o (p.seq fun q1 s1 v1 F1 A1 H1 _ o1 st1 r1 p1 => ?_)
  refine hb F1 A1 H1 σ s1 _ o1 (p1.seq fun q2 s2 v2 F2 A2 H2 _ o2 st2 r2 p2 => ?_)
  obtain ⟨z, e, k⟩ := Post.opt p2
  exact h F2 A2 H2 σ s2 v1 v2 q1 q2 z Q o2 (r1.mono st2.s1) r2 e k
theorem dv_op {op : Operator} {r : R2} {f : PV → PV → Option PV} (ho : OpR X (binaryOp op) r) (h : OpD C r f) (ha : DV X C W a fa) (hb : DV X C W b fb) : DV X C W (.BinOp a op b pos) (eBin f fa fb) := by
  obtain ⟨ta, pa, qa⟩ := ha.pr
  obtain ⟨tb, pb, qb⟩ := hb.pr
  exact ⟨_, pe_op ho pa pb, opPost h qa qb⟩
theorem dv_cmp {op : CmpOp} {r : R2} {f : PV → PV → Option PV} (ho : OpR X (compareOp op) r) (h : OpD C r f) (ha : DV X C W a fa) (hb : DV X C W b fb) (hm : behindInMarks op b = false) : DV X C W (.Compare a [op] [b] pos) (eBin f fa fb) := by
  obtain ⟨ta, pa, qa⟩ := ha.pr
  obtain ⟨tb, pb, qb⟩ := hb.pr
  exact ⟨_, pe_cmpR ho pa pb hm, opPost h qa qb⟩
theorem dv_un {op : UnaryOp} {r : V → Hp → VK → Prop} {f : PV → Option PV} (ho : UnR X (unaryOp op) r) (h : UnD C r f) (ha : DV X C W a fa) : DV X C W (.UnaryOp op a pos) (eUn f fa) := by
  obtain ⟨ta, pa, qa⟩ := ha.pr
  refine ⟨_, pe_un ho pa, fun F A H σ s Q o p => ?_⟩
  refine qa F A H σ s _ o (p.seq fun q1 s1 v1 F1 A1 H1 _ o1 st1 r1 p1 => ?_)
  obtain ⟨z, e, k⟩ := Post.opt p1
  exact h F1 A1 H1 σ s1 v1 q1 z Q o1 r1 e k
theorem dv_const {e : Expr} {v : V} {p : PV} (h : PE X e (tC v)) (hr : ∀ F, Rp C F v p) : DV X C W e (eC p) :=
  ⟨_, h, fun F A H σ s Q o q => Post.now o q (hr F)⟩
theorem dv_int {i : Int} {j} : DV X C W (.Constant (.int i) j pos) (eC (.int i)) := dv_const pe_int fun _ => .int i
theorem dv_bl {b : Bool} {j} : DV X C W (.Constant (.bool b) j pos) (eC (.bl b)) := dv_const pe_bl fun _ => .bl b
theorem dv_non {j} : DV X C W (.Constant .none j pos) (eC .non) := dv_const pe_non fun _ => .non
theorem dv_str {x : Str} {j} : DV X C W (.Constant (.str x) j pos) (eC (.str x)) := dv_const pe_str fun _ => .str x
theorem dv_var (i : Nat) {x : Str} (hN : X.N[i]? = some x := by rfl) (hv : Vis X.env.scope x := by first | exact Or.inl rfl | exact Or.inr (Or.inl rfl) | exact Or.inr (Or.inr rfl)) (hd : (x == ("__debug__" : Str)) = false := by decide)
    (hcd : (x == ("__classdict__" : Str)) = false := by decide) : DV X C W (.Name x pos) (eVar i) := by
  refine ⟨_, pe_var hN hv hd hcd, fun F A H σ s Q o p => ?_⟩
  unfold eVar at p
  cases e : s.ro[i]? with
  | none => rw [e] at p; exact False.elim p
  | some z =>
    cases z with
    | none => rw [e] at p; exact False.elim p
    | some w =>
      cases w with
      | own m => rw [e] at p; exact False.elim p
      | bor m => rw [e] at p; exact False.elim p
      | val v =>
        rw [e] at p
        obtain ⟨u, h1, h2⟩ := o.val i v e
        exact ⟨u, h1, Post.now o p h2⟩
theorem da_nil : DA X C W [] aNil := ⟨_, pa_nil, fun F A H σ s Q o p => Post.now o p .nil⟩
theorem da_cons {es : List Expr} {fs : Stt → Res (List PV)} (ha : DV X C W a fa) (hs : DA X C W es fs) (he : starEach (a :: es) X.env = (false, eval a X.env) :: starEach es X.env := by rfl) : DA X C W (a :: es) (aCons fa fs) := by
  obtain ⟨ta, pa, qa⟩ := ha.pr
  obtain ⟨tb, pb, qb⟩ := hs.pr
  refine ⟨_, pa_cons pa pb he, fun F A H σ s Q o p => ?_⟩
  refine qa F A H σ s _ o (p.seq fun q1 s1 v1 F1 A1 H1 _ o1 st1 r1 p1 => ?_)
  refine qb F1 A1 H1 σ s1 _ o1 (p1.seq fun q2 s2 v2 F2 A2 H2 _ o2 st2 r2 p2 => ?_)
  exact Post.now o2 p2 (.cons (r1.mono st2.s1) r2)
theorem dv_callB {x : Str} {p : Pos} {es : List Expr} {id : String} {fs : Stt → Res (List PV)} {r : List V → Hp → VK → Prop} {f : List PV → Option PV} (hc : CallR X (.builtin id) r) (h : CallD C r f) (hg : Gl X x) (hm : X.mg x = none) (hv : bootBuiltins x = some (.builtin id)) (ha : DA X C W (a :: es) fs)
    (hn : x ≠ "__name__" := by decide) (hdb : (x == ("__debug__" : Str)) = false := by decide) (he : starEach (a :: es) X.env = (false, eval a X.env) :: starEach es X.env := by rfl) (hpl : (backTo pos (starEach es X.env)).any (·.1) = false := by rfl) :
    DV X C W (.Call (.Name x p) (a :: es) [] pos) (eCallB f fs) := by
  obtain ⟨ta, pa, qa⟩ := ha.pr
  refine ⟨_, pe_callB hc hg hm hv pa hn hdb he hpl, fun F A H σ s Q o p => ?_⟩
  refine qa F A H σ s _ o (p.seq fun q1 s1 v1 F1 A1 H1 _ o1 st1 r1 p1 => ?_)
  obtain ⟨z, e, k⟩ := Post.opt p1
  exact h F1 A1 H1 σ s1 v1 q1 z Q o1 r1 e k
theorem dv_callTy {x : Str} {p : Pos} {es : List Expr} {T : String} {fs : Stt → Res (List PV)} {r : List V → Hp → VK → Prop} {f : List PV → Option PV} (hc : CallR X (.type T) r) (h : CallD C r f) (hg : Gl X x) (hm : X.mg x = none) (hv : bootBuiltins x = some (.type T)) (ha : DA X C W (a :: es) fs)
    (hn : x ≠ "__name__" := by decide) (hdb : (x == ("__debug__" : Str)) = false := by decide) (he : starEach (a :: es) X.env = (false, eval a X.env) :: starEach es X.env := by rfl) (hpl : (backTo pos (starEach es X.env)).any (·.1) = false := by rfl) :
    DV X C W (.Call (.Name x p) (a :: es) [] pos) (eCallB f fs) := by
  obtain ⟨ta, pa, qa⟩ := ha.pr
  refine ⟨_, pe_callTy hc hg hm hv pa hn hdb he hpl, fun F A H σ s Q o p => ?_⟩
  refine qa F A H σ s _ o (p.seq fun q1 s1 v1 F1 A1 H1 _ o1 st1 r1 p1 => ?_)
  obtain ⟨z, e, k⟩ := Post.opt p1
  exact h F1 A1 H1 σ s1 v1 q1 z Q o1 r1 e k
end
end PL

/-! PL2: statements, targets, loops, a def's promise, its call. -/
namespace PL
open PySem PySem.Spec PyProof.Rows L2

/-- how a statement ends -/
inductive Fl where
  | nx (s : Stt) | rt (v : PV) (s : Stt) | rto (m : MO) (s : Stt) | bk (s : Stt) | ct (s : Stt) | ex (c : Str) (v : PV) (s : Stt) | stuck

/-- a fresh object that nobody else knows, at p -/
def Fresh (C : Fx) (F : Hp) (A : Nat → List Addr) (H F' : Hp) (A' : Nat → List Addr) (H' : Hp) (p : Addr) (m : MO) : Prop :=
  ∃ fp, MAt C F' H' p fp m ∧ ∀ b, b ∈ fp → F' b = none ∧ ¬ OwnA A' b ∧ ¬ Bor C b ∧ (H b = none ∨ OwnA A b)

def PostS (C : Fx) (W : WX) (F : Hp) (A : Nat → List Addr) (H : Hp) (D : Ends) : Fl → Prop
  | .nx s => ∀ σ F' A' H', OkF C F' A' H' σ s → Step C F A H F' A' H' → D.nx σ H'
  | .bk s => ∀ σ F' A' H', OkF C F' A' H' σ s → Step C F A H F' A' H' → D.bk σ H'
  | .ct s => ∀ σ F' A' H', OkF C F' A' H' σ s → Step C F A H F' A' H' → D.ct σ H'
  | .rt v s => ∀ u σ F' A' H', OkF C F' A' H' σ s → Step C F A H F' A' H' → Rp C F' u v → D.rt u H'
  | .rto m s => ∀ p σ F' A' H', OkF C F' A' H' σ s → Step C F A H F' A' H' → Fresh C F A H F' A' H' p m → D.rt (.ref p) H'
  | .ex c v s => ∀ d σ F' A' H', OkF C F' A' H' σ s → Step C F A H F' A' H' → XAt C F' H' d v → W (.ref (C.cl c)) (some d) σ H'
  | .stuck => False
theorem Fresh.after {C : Fx} {F F1 F' H H1 H' : Hp} {A A1 A' : Nat → List Addr} {p : Addr} {m : MO} (st : Step C F A H F1 A1 H1) (f : Fresh C F1 A1 H1 F' A' H' p m) : Fresh C F A H F' A' H' p m := by
  obtain ⟨fp, h, k⟩ := f
  refine ⟨fp, h, fun b hb => ?_⟩
  obtain ⟨k1, k2, k3, k4⟩ := k b hb
  refine ⟨k1, k2, k3, ?_⟩
  rcases k4 with q | q
  · left
    cases e : H b with
    | none => rfl
    | some o => exact absurd q (st.s5 b (by rw [e]; simp))
  · exact (st.s3 b q).symm
theorem PostS.after {C : Fx} {W : WX} {F F1 H H1 : Hp} {A A1 : Nat → List Addr} {D : Ends} {r : Fl} (st : Step C F A H F1 A1 H1) (p : PostS C W F A H D r) : PostS C W F1 A1 H1 D r := by
  cases r with
  | nx s => exact fun σ F' A' H' o t => p σ F' A' H' o (st.trans t)
  | bk s => exact fun σ F' A' H' o t => p σ F' A' H' o (st.trans t)
  | ct s => exact fun σ F' A' H' o t => p σ F' A' H' o (st.trans t)
  | rt v s => exact fun u σ F' A' H' o t q => p u σ F' A' H' o (st.trans t) q
  | rto m s => exact fun u σ F' A' H' o t q => p u σ F' A' H' o (st.trans t) (q.after st)
  | ex c v s => exact fun d σ F' A' H' o t q => p d σ F' A' H' o (st.trans t) q
  | stuck => exact p
/-- other ends -/
theorem PostS.mono {C : Fx} {W : WX} {F H : Hp} {A : Nat → List Addr} {D D' : Ends} {r : Fl} (hn : ∀ s, r = .nx s → PostS C W F A H D (.nx s) → PostS C W F A H D' (.nx s)) (hb : ∀ s, r = .bk s → PostS C W F A H D (.bk s) → PostS C W F A H D' (.bk s)) (hc : ∀ s, r = .ct s → PostS C W F A H D (.ct s) → PostS C W F A H D' (.ct s))
    (hr : D'.rt = D.rt) (p : PostS C W F A H D r) : PostS C W F A H D' r := by
  cases r with
  | nx s => exact hn s rfl p
  | bk s => exact hb s rfl p
  | ct s => exact hc s rfl p
  | rt v s => intro u σ F' A' H' o t q; rw [hr]; exact p u σ F' A' H' o t q
  | rto m s => intro u σ F' A' H' o t q; rw [hr]; exact p u σ F' A' H' o t q
  | ex c v s => exact p
  | stuck => exact p

structure DS (X : Cx) (C : Fx) (W : WX) (st : Stmt) (g : Stt → Fl) : Prop where
  pr : ∃ ts, PS X st ts ∧ ∀ F A H σ s D, OkF C F A H σ s → PostS C W F A H D (g s) → ts D σ H
structure DSs (X : Cx) (C : Fx) (W : WX) (st : List Stmt) (g : Stt → Fl) : Prop where
  pr : ∃ ts, PSs X st ts ∧ ∀ F A H σ s D, OkF C F A H σ s → PostS C W F A H D (g s) → ts D σ H
/-- slots that vs does not tell are as they were -/
def SameOut (vs : Nat → Bool) (σ σ' : L2.St) : Prop := σ'.length = σ.length ∧ ∀ i, vs i = false → σ'[i]? = σ[i]?
theorem SameOut.refl (vs : Nat → Bool) (σ : L2.St) : SameOut vs σ σ := ⟨rfl, fun _ _ => rfl⟩
theorem SameOut.trans {vs : Nat → Bool} {σ σ1 σ2 : L2.St} (a : SameOut vs σ σ1) (b : SameOut vs σ1 σ2) : SameOut vs σ σ2 := ⟨b.1.trans a.1, fun i h => (b.2 i h).trans (a.2 i h)⟩
abbrev anyV : Nat → Bool := fun _ => true
/-- a target: what the store makes of the state -/
structure DG (X : Cx) (C : Fx) (vs : Nat → Bool) (tg : Expr) (a : PV → Stt → Option Stt) : Prop where
  pr : ∃ t, PG X tg t ∧ ∀ F A H σ s x p s' Q, OkF C F A H σ s → Rp C F x p → a p s = some s' → (∀ σ' F' A' H', OkF C F' A' H' σ' s' → Step C F A H F' A' H' → SameOut vs σ σ' → Q σ' H') → t x σ H Q
structure DGs (X : Cx) (C : Fx) (vs : Nat → Bool) (tg : List Expr) (a : List PV → Stt → Option Stt) : Prop where
  pr : ∃ t, PGs X tg t ∧ ∀ F A H σ s x p s' Q, OkF C F A H σ s → Rps C F x p → a p s = some s' → (∀ σ' F' A' H', OkF C F' A' H' σ' s' → Step C F A H F' A' H' → SameOut vs σ σ' → Q σ' H') → t x σ H Q

def setV (i : Nat) (p : PV) (s : Stt) : Stt := ⟨s.ro.set i (some (.val p)), s.mu⟩
def setO (i : Nat) (m : MO) (s : Stt) : Stt := ⟨s.ro.set i (some (.own m)), s.mu⟩
def dropA (A : Nat → List Addr) (i : Nat) : Nat → List Addr := fun j => if j = i then [] else A j
def putA (A : Nat → List Addr) (i : Nat) (fp : List Addr) : Nat → List Addr := fun j => if j = i then fp else A j

section
variable {C : Fx} {F H : Hp} {A : Nat → List Addr} {σ : L2.St} {s : Stt}
theorem OkF.setV {i : Nat} {u : V} {p : PV} (o : OkF C F A H σ s) (r : Rp C F u p) : OkF C F (dropA A i) H (σ.set i (some u)) (setV i p s) ∧ Step C F A H F (dropA A i) H := by
  have sub : ∀ j b, b ∈ dropA A i j → b ∈ A j := fun j b hb => by
    unfold dropA at hb
    split at hb
    · cases hb
    · exact hb
  refine ⟨⟨by simp [PL.setV, o.len], o.sub, fun j v e => ?_, fun j m e => ?_, o.nb, fun j k e => ?_, o.bor, fun j b hb => o.free j b (sub j b hb), fun j l b hj hl => o.dis j l b (sub _ _ hj) (sub _ _ hl), fun k b hk hb => ?_, o.disB⟩, ⟨fun _ _ h => h, fun _ h => .inl h, fun b hb => ?_, fun _ _ h _ _ => h, fun _ h => h⟩⟩
  · unfold PL.setV at e
    by_cases hj : i = j
    · subst hj
      have hl : i < s.ro.length := by
        cases z : (s.ro.set i (some (SV.val p)))[i]? with
        | none => simp only [z] at e; cases e
        | some _ => have := (List.getElem?_eq_some_iff.mp z).1; rwa [List.length_set] at this
      simp only [List.getElem?_set_self hl] at e
      cases e
      exact ⟨u, List.getElem?_set_self (by rw [o.len]; exact hl), r⟩
    · simp only [List.getElem?_set_ne hj] at e ⊢
      exact o.val j v e
  · unfold PL.setV at e
    by_cases hj : i = j
    · subst hj
      have hl : i < s.ro.length := by
        cases z : (s.ro.set i (some (SV.val p)))[i]? with
        | none => simp only [z] at e; cases e
        | some _ => have := (List.getElem?_eq_some_iff.mp z).1; rwa [List.length_set] at this
      simp only [List.getElem?_set_self hl] at e
      cases e
    · simp only [List.getElem?_set_ne hj] at e ⊢
      unfold dropA
      rw [if_neg (Ne.symm hj)]
      exact o.own j m e
  · unfold PL.setV at e
    by_cases hj : i = j
    · subst hj
      have hl : i < s.ro.length := by
        cases z : (s.ro.set i (some (SV.val p)))[i]? with
        | none => simp only [z] at e; cases e
        | some _ => have := (List.getElem?_eq_some_iff.mp z).1; rwa [List.length_set] at this
      simp only [List.getElem?_set_self hl] at e
      cases e
    · simp only [List.getElem?_set_ne hj] at e ⊢
      exact o.lent j k e
  · exact ⟨(o.freeB k b hk hb).1, fun j z => (o.freeB k b hk hb).2 j (sub _ _ z)⟩
  · obtain ⟨j, hj⟩ := hb
    exact .inl ⟨j, sub _ _ hj⟩
/-- a fresh object goes to a slot -/
theorem OkF.setO {F0 H0 : Hp} {A0 : Nat → List Addr} {i : Nat} {p : Addr} {m : MO} (o : OkF C F A H σ s) (st : Step C F0 A0 H0 F A H) (f : Fresh C F0 A0 H0 F A H p m) (hi : i < s.ro.length) : ∃ A', OkF C F A' H (σ.set i (some (.ref p))) (setO i m s) ∧ Step C F0 A0 H0 F A' H := by
  obtain ⟨fp, hm, hf⟩ := f
  have cases' : ∀ j b, b ∈ putA A i fp j → (j = i ∧ b ∈ fp) ∨ (j ≠ i ∧ b ∈ A j) := fun j b hb => by
    unfold putA at hb
    split at hb
    · exact .inl ⟨by assumption, hb⟩
    · exact .inr ⟨by assumption, hb⟩
  refine ⟨putA A i fp, ⟨by simp [PL.setO, o.len], o.sub, fun j v e => ?_, fun j m' e => ?_, o.nb, fun j k e => ?_, o.bor, fun j b hb => ?_, fun j l b hj hl => ?_, fun k b hk hb => ?_, o.disB⟩, ⟨st.s1, st.s2, fun b hb => ?_, st.s4, st.s5⟩⟩
  · unfold PL.setO at e
    by_cases hj : i = j
    · subst hj
      simp only [List.getElem?_set_self hi] at e
      cases e
    · simp only [List.getElem?_set_ne hj] at e ⊢
      exact o.val j v e
  · unfold PL.setO at e
    by_cases hj : i = j
    · subst hj
      simp only [List.getElem?_set_self hi] at e
      cases e
      refine ⟨p, List.getElem?_set_self (by rw [o.len]; exact hi), ?_⟩
      unfold putA
      rw [if_pos rfl]
      exact hm
    · simp only [List.getElem?_set_ne hj] at e ⊢
      unfold putA
      rw [if_neg (Ne.symm hj)]
      exact o.own j m' e
  · unfold PL.setO at e
    by_cases hj : i = j
    · subst hj
      simp only [List.getElem?_set_self hi] at e
      cases e
    · simp only [List.getElem?_set_ne hj] at e ⊢
      exact o.lent j k e
  · rcases cases' j b hb with ⟨_, h⟩ | ⟨_, h⟩
    · exact ⟨(hf b h).1, hm.there b h⟩
    · exact o.free j b h
  · rcases cases' j b hj with ⟨e1, h1⟩ | ⟨e1, h1⟩
    · rcases cases' l b hl with ⟨e2, h2⟩ | ⟨e2, h2⟩
      · rw [e1, e2]
      · exact absurd ⟨l, h2⟩ (hf b h1).2.1
    · rcases cases' l b hl with ⟨e2, h2⟩ | ⟨e2, h2⟩
      · exact absurd ⟨j, h1⟩ (hf b h2).2.1
      · exact o.dis j l b h1 h2
  · refine ⟨(o.freeB k b hk hb).1, fun j z => ?_⟩
    rcases cases' j b z with ⟨_, h⟩ | ⟨_, h⟩
    · exact (hf b h).2.2.1 ⟨k, hk, hb⟩
    · exact (o.freeB k b hk hb).2 j h
  · obtain ⟨j, hj⟩ := hb
    rcases cases' j b hj with ⟨_, h⟩ | ⟨_, h⟩
    · exact (hf b h).2.2.2.symm
    · exact st.s3 b ⟨j, h⟩
/-- the slots forgotten -/
theorem OkF.forget (o : OkF C F A H σ s) : OkF C F (fun _ => []) H [] ⟨[], s.mu⟩ :=
  ⟨rfl, o.sub, fun i v e => by simp at e, fun i m e => by simp at e, o.nb, fun i k e => by simp at e, o.bor, fun _ _ h => absurd h (by simp), fun _ _ _ h _ => absurd h (by simp), fun k b hk hb => ⟨(o.freeB k b hk hb).1, fun _ h => absurd h (by simp)⟩, o.disB⟩
end

/-! ### statements -/
def gSeq (g h : Stt → Fl) : Stt → Fl := fun s => match g s with
  | .nx s1 => h s1
  | .rt v s1 => .rt v s1
  | .rto m s1 => .rto m s1
  | .bk s1 => .bk s1
  | .ct s1 => .ct s1
  | .ex c v s1 => .ex c v s1
  | .stuck => .stuck
def gNop : Stt → Fl := .nx
def Res.fl {α : Type} : Res α → (α → Stt → Fl) → Fl
  | .ok a s, f => f a s
  | .ex c v s, _ => .ex c v s
  | .stuck, _ => .stuck
@[simp] theorem Res.fl_ok {α : Type} (a : α) (s : Stt) (f : α → Stt → Fl) : (Res.ok a s).fl f = f a s := rfl
@[simp] theorem Res.fl_ex {α : Type} (c : Str) (v : PV) (s : Stt) (f : α → Stt → Fl) : (Res.ex c v s : Res α).fl f = .ex c v s := rfl
@[simp] theorem Res.fl_stuck {α : Type} (f : α → Stt → Fl) : (Res.stuck : Res α).fl f = .stuck := rfl
def gOpt : Option Stt → Fl
  | some s => .nx s
  | none => .stuck
def gAsg (fe : Stt → Res PV) (a : PV → Stt → Option Stt) : Stt → Fl := fun s => (fe s).fl fun p s1 => gOpt (a p s1)
def gRet (fe : Stt → Res PV) : Stt → Fl := fun s => (fe s).fl fun p s1 => .rt p s1
def gDrop (fe : Stt → Res PV) : Stt → Fl := fun s => (fe s).fl fun _ s1 => .nx s1
def gIf (ft : Stt → Res Bool) (g h : Stt → Fl) : Stt → Fl := fun s => (ft s).fl fun b s1 => if b = true then g s1 else h s1
def aName (i : Nat) : PV → Stt → Option Stt := fun p s => some (setV i p s)
def asNil : List PV → Stt → Option Stt
  | [], s => some s
  | _ :: _, _ => none
def asCons (a : PV → Stt → Option Stt) (b : List PV → Stt → Option Stt) : List PV → Stt → Option Stt
  | p :: ps, s => (a p s).bind fun s1 => b ps s1
  | [], _ => none
def aTup (n : Nat) (b : List PV → Stt → Option Stt) : PV → Stt → Option Stt
  | .tup l, s => if l.length = n then b l s else none
  | _, _ => none

/-- as Post.seq, into a statement -/
theorem PostS.seq {α β : Type} {C : Fx} {W : WX} {R : Hp → Hp → β → α → Prop} {F H : Hp} {A : Nat → List Addr} {σ : L2.St} {D : Ends} {r : Res α} {f : α → Stt → Fl} {Q1 : β → Hp → Prop}
    (p : PostS C W F A H D (r.fl f))
    (k : ∀ a s v F' A' H', r = .ok a s → OkF C F' A' H' σ s → Step C F A H F' A' H' → R F' H' v a → PostS C W F' A' H' D (f a s) → Q1 v H') : Post C W R F A H σ r Q1 := by
  cases r with
  | ok a s => exact fun v F' A' H' o t q => k a s v F' A' H' rfl o t q (p.after t)
  | ex c v s => exact fun d F' A' H' o t q => p d σ F' A' H' o t q
  | stuck => exact p

section
variable {X : Cx} {C : Fx} {W : WX} {st : Stmt} {sts : List Stmt} {e tg : Expr} {es tgs : List Expr} {pos : Pos} {fe : Stt → Res PV} {g h : Stt → Fl}
theorem dss_nil : DSs X C W [] gNop := ⟨_, pss_nil, fun F A H σ s D o p => p σ F A H o .refl⟩
theorem dss_cons (h1 : DS X C W st g) (h2 : DSs X C W sts h) : DSs X C W (st :: sts) (gSeq g h) := by
  obtain ⟨t1, p1, q1⟩ := h1.pr
  obtain ⟨t2, p2, q2⟩ := h2.pr
  refine ⟨_, pss_cons p1 p2, fun F A H σ s D o p => ?_⟩
  show t1 { D with nx := t2 D } σ H
  refine q1 F A H σ s _ o ?_
  unfold gSeq at p
  cases e : g s with
  | nx s1 =>
    rw [e] at p
    exact fun σ1 F1 A1 H1 o1 st1 => q2 F1 A1 H1 σ1 s1 D o1 (p.after st1)
  | rt v s1 => rw [e] at p; exact p
  | rto v s1 => rw [e] at p; exact p
  | bk s1 => rw [e] at p; exact p
  | ct s1 => rw [e] at p; exact p
  | ex c v s1 => rw [e] at p; exact p
  | stuck => rw [e] at p; exact p
theorem ds_expr (he : DV X C W e fe) (hs : swapsWith e none pos.line X.env = pure false := by rfl) : DS X C W (.Expr e pos) (gDrop fe) := by
  obtain ⟨te, pe, qe⟩ := he.pr
  refine ⟨_, ps_expr pe hs, fun F A H σ s D o p => ?_⟩
  exact qe F A H σ s _ o (PostS.seq p fun a s1 v F1 A1 H1 _ o1 st1 _ p1 => p1 σ F1 A1 H1 o1 .refl)
theorem ds_ret (he : DV X C W e fe) : DS X C W (.Return (some e) pos) (gRet fe) := by
  obtain ⟨te, pe, qe⟩ := he.pr
  refine ⟨_, ps_ret pe, fun F A H σ s D o p => ?_⟩
  exact qe F A H σ s _ o (PostS.seq p fun a s1 v F1 A1 H1 _ o1 st1 r1 p1 => p1 v σ F1 A1 H1 o1 .refl r1)
theorem ds_retN : DS X C W (.Return none pos) (fun s => .rt .non s) := ⟨_, ps_retN, fun F A H σ s D o p => p .non σ F A H o .refl .non⟩
theorem ds_pass : DS X C W (.Pass pos) gNop := ⟨_, ps_pass, fun F A H σ s D o p => p σ F A H o .refl⟩
theorem ds_break : DS X C W (.Break pos) .bk := ⟨_, ps_break, fun F A H σ s D o p => p σ F A H o .refl⟩
theorem ds_continue : DS X C W (.Continue pos) .ct := ⟨_, ps_continue, fun F A H σ s D o p => p σ F A H o .refl⟩
theorem ds_if {c : Expr} {a b : List Stmt} {fc : Stt → Res Bool} (hc : DT X C W c fc) (ha : DSs X C W a g) (hb : DSs X C W b h) : DS X C W (.If c a b pos) (gIf fc g h) := by
  obtain ⟨tc, pc, qc⟩ := hc.pr
  obtain ⟨ta, pa, qa⟩ := ha.pr
  obtain ⟨tb, pb, qb⟩ := hb.pr
  refine ⟨_, ps_if pc pa pb, fun F A H σ s D o p => ?_⟩
  refine qc F A H σ s _ o (PostS.seq p fun a s1 v F1 A1 H1 _ o1 st1 r1 p1 => ?_)
  obtain rfl : v = a := r1
  cases v with
  | true => exact iteT (qa F1 A1 H1 σ s1 D o1 (by simpa using p1))
  | false => exact iteF (qb F1 A1 H1 σ s1 D o1 (by simpa using p1))
/-- a block that is never reached -/
theorem dss_never : DSs X C W sts (fun _ => .stuck) := ⟨_, pss_never, fun F A H σ s D o p => p⟩
theorem ds_never : DS X C W st (fun _ => .stuck) := ⟨_, ps_never, fun F A H σ s D o p => p⟩
theorem dg_name {vs : Nat → Bool} {i : Nat} {x : Str} (hN : X.N.Nodup) (hi : X.N[i]? = some x) (hx : Loc X.env.scope x) (hf : X.fn x = true ∨ X.env.scope.names.lookup x = some .local := by first | exact .inl rfl | exact .inr rfl | assumption) (hv : vs i = true := by rfl) : DG X C vs (.Name x pos) (aName i) := by
  refine ⟨_, pg_name hN hi hx hf, fun F A H σ s x p s' Q o r e k => ?_⟩
  cases e
  obtain ⟨o1, st1⟩ := o.setV (i := i) r
  exact k _ _ _ _ o1 st1 ⟨by simp, fun j hj => List.getElem?_set_ne (fun e => by rw [e, hj] at hv; cases hv)⟩
theorem dgs_nil {vs : Nat → Bool} : DGs X C vs [] asNil := by
  refine ⟨_, pgs_nil, fun F A H σ s x p s' Q o r e k => ?_⟩
  cases r with
  | nil => cases e; exact ⟨rfl, k _ _ _ _ o .refl (.refl _ _)⟩
  | cons _ _ => cases e
theorem dgs_cons {vs : Nat → Bool} {a : PV → Stt → Option Stt} {b : List PV → Stt → Option Stt} (h1 : DG X C vs tg a) (h2 : DGs X C vs tgs b) (hs : (assignEach (tg :: tgs) X.env).map (·.2) = assign tg X.env :: (assignEach tgs X.env).map (·.2) := by rfl) : DGs X C vs (tg :: tgs) (asCons a b) := by
  obtain ⟨t1, p1, q1⟩ := h1.pr
  obtain ⟨t2, p2, q2⟩ := h2.pr
  refine ⟨_, pgs_cons p1 p2 hs, fun F A H σ s x p s' Q o r e k => ?_⟩
  cases r with
  | nil => cases e
  | @cons v us p ps r1 r2 =>
    have e : (a p s).bind (fun s1 => b ps s1) = some s' := e
    cases e1 : a p s with
    | none => rw [e1] at e; cases e
    | some s1 =>
      rw [e1] at e
      exact ⟨v, us, rfl, q1 F A H σ s v p s1 _ o r1 e1 fun σ1 F1 A1 H1 o1 st1 so1 => q2 F1 A1 H1 σ1 s1 us ps s' Q o1 (r2.mono st1.s1) e fun σ2 F2 A2 H2 o2 st2 so2 => k σ2 F2 A2 H2 o2 (st1.trans st2) (so1.trans so2)⟩
theorem dg_tup {vs : Nat → Bool} {k n : Nat} {b : List PV → Stt → Option Stt} (hK : X.K = C.K) (hc : X.calm = true) (h : DGs X C vs es b) (hn : (assignEach es X.env).length = n := by rfl) (hst : (assignEach es X.env).findIdx? (·.1) = none := by rfl) : DG X C vs (.Tuple es k pos) (aTup n b) := by
  obtain ⟨t, p, q⟩ := h.pr
  refine ⟨_, pg_tup (n := n) hc p hn hst, fun F A H σ s x v s' Q o r e kk => ?_⟩
  cases r with
  | @tup a xs l hT hR =>
    have e : (if l.length = n then b l s else none) = some s' := e
    by_cases hl : l.length = n
    · rw [if_pos hl] at e
      exact ⟨a, xs, rfl, by rw [hK]; exact sqT_mono o.sub hT, by rw [hR.length]; exact hl, q F A H σ s xs l s' Q o hR e kk⟩
    · rw [if_neg hl] at e; cases e
  | _ => cases e
theorem ds_asg {a : PV → Stt → Option Stt} (he : DV X C W e fe) (hg : DG X C anyV tg a) (hs : swapsWithSole [tg] e pos.line X.env = pure false := by rfl) (hw : swappedStores [tg] e X.env = pure none := by rfl)
    (h1 : (assignEach [tg] X.env).map (·.2) = [assign tg X.env] := by rfl) : DS X C W (.Assign [tg] e pos) (gAsg fe a) := by
  obtain ⟨te, pe, qe⟩ := he.pr
  obtain ⟨t, p, q⟩ := hg.pr
  refine ⟨_, ps_asg pe p hs hw h1, fun F A H σ s D o pp => ?_⟩
  show te σ H fun x H1 => t x σ H1 D.nx
  refine qe F A H σ s _ o (PostS.seq pp fun a s1 v F1 A1 H1 _ o1 st1 r1 p1 => ?_)
  unfold gOpt at p1
  split at p1
  · rename_i s2 e2
    exact q F1 A1 H1 σ s1 v a s2 _ o1 r1 e2 fun σ2 F2 A2 H2 o2 st2 _ => p1 σ2 F2 A2 H2 o2 st2
  · exact p1.elim
theorem ds_set {i : Nat} {x : Str} {pos' : Pos} (hN : X.N.Nodup) (hi : X.N[i]? = some x) (hx : Loc X.env.scope x) (he : DV X C W e fe) (hs : swapsWith e (some (.Name x pos')) pos.line X.env = pure false := by rfl) (hf : X.fn x = true ∨ X.env.scope.names.lookup x = some .local := by first | exact .inl rfl | exact .inr rfl | assumption) :
    DS X C W (.Assign [.Name x pos'] e pos) (gAsg fe (aName i)) := by
  obtain ⟨te, pe, qe⟩ := he.pr
  refine ⟨_, ps_set hN hi hx pe hs hf, fun F A H σ s D o pp => ?_⟩
  refine qe F A H σ s _ o (PostS.seq pp fun a s1 v F1 A1 H1 _ o1 st1 r1 p1 => ?_)
  obtain ⟨o2, st2⟩ := o1.setV (i := i) r1
  exact p1 _ _ _ _ o2 st2
end
end PL

/-! PL3: loops, parallel stores, a def's promise and its call. -/
namespace PL
open PySem PySem.Spec PyProof.Rows L2

/-! ### while -/
def whileN (t : Stt → Res Bool) (b : Stt → Fl) : Nat → Stt → Fl
  | 0, _ => .stuck
  | n + 1, s => (t s).fl fun c s1 => if c = true then (match b s1 with
      | .nx s2 => whileN t b n s2
      | .ct s2 => whileN t b n s2
      | .bk s2 => .nx s2
      | .rt v s2 => .rt v s2
      | .rto m s2 => .rto m s2
      | .ex c v s2 => .ex c v s2
      | .stuck => .stuck) else .nx s1
theorem whileN_succ (t : Stt → Res Bool) (b : Stt → Fl) (n : Nat) (s : Stt) : whileN t b (n + 1) s = ((t s).fl fun c s1 => if c = true then (match b s1 with
      | .nx s2 => whileN t b n s2
      | .ct s2 => whileN t b n s2
      | .bk s2 => .nx s2
      | .rt v s2 => .rt v s2
      | .rto m s2 => .rto m s2
      | .ex c v s2 => .ex c v s2
      | .stuck => .stuck) else .nx s1) := rfl
theorem whileN_step (t : Stt → Res Bool) (b : Stt → Fl) : ∀ (n : Nat) (s : Stt), whileN t b n s ≠ .stuck → whileN t b (n + 1) s = whileN t b n s
  | 0, s, h => absurd rfl h
  | n + 1, s, h => by
    rw [whileN_succ t b (n + 1), whileN_succ t b n]
    rw [whileN_succ t b n] at h
    cases e : t s with
    | ok c s1 =>
      rw [e] at h
      cases c with
      | false => rfl
      | true =>
        simp only [Res.fl, if_true] at h ⊢
        cases e2 : b s1 with
        | nx s2 => rw [e2] at h; exact whileN_step t b n s2 h
        | ct s2 => rw [e2] at h; exact whileN_step t b n s2 h
        | bk s2 => rfl
        | rt v s2 => rfl
        | rto v s2 => rfl
        | ex c v s2 => rfl
        | stuck => rfl
    | ex c v s1 => rfl
    | stuck => rfl
theorem whileN_more (t : Stt → Res Bool) (b : Stt → Fl) {n : Nat} {s : Stt} (h : whileN t b n s ≠ .stuck) : ∀ k, whileN t b (n + k) s = whileN t b n s
  | 0 => rfl
  | k + 1 => by
    have ih := whileN_more t b h k
    rw [← Nat.add_assoc, whileN_step t b (n + k) s (by rw [ih]; exact h), ih]
theorem whileN_same (t : Stt → Res Bool) (b : Stt → Fl) {n m : Nat} {s : Stt} (h : whileN t b n s ≠ .stuck) (h' : whileN t b m s ≠ .stuck) : whileN t b n s = whileN t b m s := by
  rcases Nat.le_total n m with z | z
  · obtain ⟨k, rfl⟩ := Nat.exists_eq_add_of_le z
    exact (whileN_more t b h k).symm
  · obtain ⟨k, rfl⟩ := Nat.exists_eq_add_of_le z
    exact whileN_more t b h' k
open Classical in
/-- while: the end of the turns, if there is one -/
noncomputable def gWhile (t : Stt → Res Bool) (b : Stt → Fl) (s : Stt) : Fl :=
  if h : ∃ n, whileN t b n s ≠ .stuck then whileN t b (Classical.choose h) s else .stuck
theorem gWhile_eq {t : Stt → Res Bool} {b : Stt → Fl} {n : Nat} {s : Stt} {r : Fl} (h : whileN t b n s = r) (hr : r ≠ .stuck) : gWhile t b s = r := by
  have hn : whileN t b n s ≠ .stuck := by rw [h]; exact hr
  have hx : ∃ n, whileN t b n s ≠ .stuck := ⟨n, hn⟩
  unfold gWhile
  rw [dif_pos hx, whileN_same t b (Classical.choose_spec hx) hn, h]
theorem gWhile_at {t : Stt → Res Bool} {b : Stt → Fl} {s : Stt} (h : gWhile t b s ≠ .stuck) : ∃ n, whileN t b n s = gWhile t b s := by
  unfold gWhile at h ⊢
  split at h
  · rename_i hx
    rw [dif_pos hx]
    exact ⟨_, rfl⟩
  · exact absurd rfl h
/-- the body ends by the next turn, or otherwise -/
def brkD (D : Ends) (N : L2.St → Hp → Prop) : Ends := { D with nx := N, ct := N, bk := D.nx }

section
variable {X : Cx} {C : Fx} {W : WX} {e tg : Expr} {es tgs : List Expr} {pos : Pos} {fe : Stt → Res PV} {g h : Stt → Fl}
theorem ds_while {c : Expr} {body : List Stmt} {fc : Stt → Res Bool} (hp : PassesOwn (model X.prog X.w) X.A X.env X.xe) (hc : DT X C W c fc) (hb : DSs X C W body g) : DS X C W (.While c body [] pos) (gWhile fc g) := by
  obtain ⟨tc, pc, qc⟩ := hc.pr
  obtain ⟨tb, pb, qb⟩ := hb.pr
  refine ⟨_, ps_while hp pc pb, fun F A H σ s D o p => ?_⟩
  have hns : gWhile fc g s ≠ .stuck := fun z => by rw [z] at p; exact p
  obtain ⟨n, hn⟩ := gWhile_at hns
  refine ⟨fun m σ1 H1 => ∃ F1 A1 s1, OkF C F1 A1 H1 σ1 s1 ∧ Step C F A H F1 A1 H1 ∧ whileN fc g m s1 = gWhile fc g s, ⟨n, F, A, s, o, .refl, hn⟩, ?_⟩
  rintro m σ1 H1 ⟨F1, A1, s1, o1, st1, hm⟩
  have p1 : PostS C W F1 A1 H1 D (whileN fc g m s1) := by rw [hm]; exact p.after st1
  cases m with
  | zero => exact absurd hm.symm hns
  | succ m =>
    rw [whileN_succ] at p1 hm
    refine qc F1 A1 H1 σ1 s1 _ o1 (PostS.seq p1 fun a s2 v F2 A2 H2 he o2 st2 r2 p2 => ?_)
    obtain rfl : v = a := r2
    cases v with
    | false =>
      refine iteF ?_
      exact (by simpa using p2 : PostS C W F2 A2 H2 D (.nx s2)) σ1 F2 A2 H2 o2 .refl
    | true =>
      refine iteT ⟨fun σ3 H3 => ∃ m', m' < m + 1 ∧ ∃ F3 A3 s3, OkF C F3 A3 H3 σ3 s3 ∧ Step C F A H F3 A3 H3 ∧ whileN fc g m' s3 = gWhile fc g s, fun σ3 H3 z => z, ?_⟩
      rw [he] at hm
      simp only [Res.fl, if_true] at hm p2
      refine qb F2 A2 H2 σ1 s2 _ o2 ?_
      cases e2 : g s2 with
      | nx s3 =>
        rw [e2] at hm
        exact fun σ3 F3 A3 H3 o3 st3 => ⟨m, Nat.lt_succ_self m, F3, A3, s3, o3, (st1.trans st2).trans st3, hm⟩
      | ct s3 =>
        rw [e2] at hm
        exact fun σ3 F3 A3 H3 o3 st3 => ⟨m, Nat.lt_succ_self m, F3, A3, s3, o3, (st1.trans st2).trans st3, hm⟩
      | bk s3 => rw [e2] at p2; exact p2
      | rt v s3 => rw [e2] at p2; exact p2
      | rto v s3 => rw [e2] at p2; exact p2
      | ex c v s3 => rw [e2] at p2; exact p2
      | stuck => rw [e2] at p2; exact p2
end

/-! ### for -/
def forL (a : PV → Stt → Option Stt) (b : Stt → Fl) : List PV → Stt → Fl
  | [], s => .nx s
  | p :: r, s => match a p s with
    | none => .stuck
    | some s1 => match b s1 with
      | .nx s2 => forL a b r s2
      | .ct s2 => forL a b r s2
      | .bk s2 => .nx s2
      | .rt v s2 => .rt v s2
      | .rto m s2 => .rto m s2
      | .ex c v s2 => .ex c v s2
      | .stuck => .stuck
/-- what a walk gives: the plain values l one by one -/
def RI (C : Fx) : Hp → Hp → It → List PV → Prop := fun F _ J l => ∃ (G : Hp → Prop) (Y : Nat → Hp → V → Hp → Prop), Walk J l.length G Y ∧ (∀ H2, Same F H2 → G H2) ∧
  ∀ i F1 A1 H1 σ s x H2 p, OkF C F1 A1 H1 σ s → Same F F1 → Y i H1 x H2 → l[i]? = some p → ∃ F2, OkF C F2 A1 H2 σ s ∧ Step C F1 A1 H1 F2 A1 H2 ∧ Rp C F2 x p
structure DI (X : Cx) (C : Fx) (W : WX) (tg iter : Expr) (f : Stt → Res (List PV)) : Prop where
  pr : ∃ ti, PI X tg iter ti ∧ ∀ F A H σ s (Q : It → Hp → Prop), OkF C F A H σ s → Post C W (RI C) F A H σ (f s) Q → ti σ H Q
def gFor (fi : Stt → Res (List PV)) (a : PV → Stt → Option Stt) (b : Stt → Fl) : Stt → Fl := fun s => (fi s).fl fun l s1 => forL a b l s1
theorem forL_cons (a : PV → Stt → Option Stt) (b : Stt → Fl) (p : PV) (r : List PV) (s s1 : Stt) (h : a p s = some s1) : forL a b (p :: r) s = match b s1 with
      | .nx s2 => forL a b r s2
      | .ct s2 => forL a b r s2
      | .bk s2 => .nx s2
      | .rt v s2 => .rt v s2
      | .rto m s2 => .rto m s2
      | .ex c v s2 => .ex c v s2
      | .stuck => .stuck := by
  show (match a p s with | none => _ | some s1 => _) = _
  rw [h]
section
variable {X : Cx} {C : Fx} {W : WX} {e tg : Expr} {es tgs : List Expr} {pos : Pos} {fe : Stt → Res PV} {g h : Stt → Fl}
theorem ds_for {iter : Expr} {body : List Stmt} {fi : Stt → Res (List PV)} {a : PV → Stt → Option Stt} (hp : PassesOwn (model X.prog X.w) X.A X.env X.xe) (hc : X.calm = true) (hi : DI X C W tg iter fi) (hg : DG X C anyV tg a) (hb : DSs X C W body g)
    (hs : ∀ x, foldedSetIterable iter X.env x = pure x := by intro _; rfl) : DS X C W (.For tg iter body [] pos) (gFor fi a g) := by
  obtain ⟨ti, pi, qi⟩ := hi.pr
  obtain ⟨tt, pt, qt⟩ := hg.pr
  obtain ⟨tb, pb, qb⟩ := hb.pr
  refine ⟨_, ps_for hp hc pi pt pb hs, fun F A H σ s D o p => ?_⟩
  show ti σ H fun J H1 => _
  refine qi F A H σ s _ o (PostS.seq p fun l s1 J F1 A1 H1 _ o1 st1 r1 p1 => ?_)
  obtain ⟨G, Y, w, hG, hY⟩ := r1
  -- the invariant: the rest of the list is what is left
  refine for_it w (fun i σ2 H2 => ∃ F2 A2 s2, OkF C F2 A2 H2 σ2 s2 ∧ Step C F1 A1 H1 F2 A2 H2 ∧ PostS C W F2 A2 H2 D (forL a g (l.drop i) s2)) ⟨F1, A1, s1, o1, .refl, p1⟩
    (fun i σ2 H2 _ ⟨F2, A2, s2, o2, st2, _⟩ => hG H2 (st2.s1.trans o2.sub)) ?_ ?_
  · rintro i x σ2 H2 H3 hi ⟨F2, A2, s2, o2, st2, p2⟩ y
    have hl : l[i]? = some l[i] := List.getElem?_eq_getElem hi
    obtain ⟨F3, o3, st3, r3⟩ := hY i F2 A2 H2 σ2 s2 x H3 l[i] o2 st2.s1 y hl
    rw [List.drop_eq_getElem_cons hi] at p2
    cases ea : a l[i] s2 with
    | none =>
      have z : forL a g (l[i] :: l.drop (i + 1)) s2 = .stuck := by
        show (match a l[i] s2 with | none => _ | some s1 => _) = _
        rw [ea]
      rw [z] at p2; exact p2.elim
    | some s3 =>
      rw [forL_cons _ _ _ _ _ _ ea] at p2
      refine qt F3 A2 H3 σ2 s2 x l[i] s3 _ o3 r3 ea fun σ4 F4 A4 H4 o4 st4 _ => ?_
      have p4 := p2.after (st3.trans st4)
      have sA := (st2.trans st3).trans st4
      refine qb F4 A4 H4 σ4 s3 _ o4 ?_
      cases e2 : g s3 with
      | nx s5 =>
        rw [e2] at p4
        exact fun σ5 F5 A5 H5 o5 st5 => ⟨F5, A5, s5, o5, sA.trans st5, p4.after st5⟩
      | ct s5 =>
        rw [e2] at p4
        exact fun σ5 F5 A5 H5 o5 st5 => ⟨F5, A5, s5, o5, sA.trans st5, p4.after st5⟩
      | bk s5 => rw [e2] at p4; exact p4
      | rt v s5 => rw [e2] at p4; exact p4
      | rto v s5 => rw [e2] at p4; exact p4
      | ex c v s5 => rw [e2] at p4; exact p4
      | stuck => rw [e2] at p4; exact p4
  · rintro σ2 H2 ⟨F2, A2, s2, o2, st2, p2⟩
    rw [List.drop_of_length_le (Nat.le_refl _)] at p2
    exact p2 σ2 F2 A2 H2 o2 .refl
end

/-! ### what is walked -/
section
variable {X : Cx} {C : Fx} {W : WX} {e tg : Expr} {es tgs : List Expr} {pos : Pos} {fe : Stt → Res PV} {fa : Stt → Res (List PV)}
theorem yat_ok {F : Hp} {xs : List V} {l : List PV} (hr : Rps C F xs l) : ∀ i F1 A1 H1 σ s x H2 p, OkF C F1 A1 H1 σ s → Same F F1 → YAt xs i H1 x H2 → l[i]? = some p → ∃ F2, OkF C F2 A1 H2 σ s ∧ Step C F1 A1 H1 F2 A1 H2 ∧ Rp C F2 x p := by
  rintro i F1 A1 H1 σ s x H2 p o sm ⟨rfl, hx⟩ hp
  obtain ⟨q, e, r⟩ := hr.getV hx
  rw [hp] at e; cases e
  exact ⟨F1, o, .refl, r.mono sm⟩
def iSeq (fe : Stt → Res PV) : Stt → Res (List PV) := fun s => (fe s).bind fun p s1 => match p with
  | .lst l => .ok l s1
  | _ => .stuck
def iTupS (fe : Stt → Res PV) : Stt → Res (List PV) := fun s => (fe s).bind fun p s1 => match p with
  | .tup l => .ok l s1
  | _ => .stuck
def iScr (fe : Stt → Res PV) : Stt → Res (List PV) := fun s => (fe s).bind fun p s1 => match p with
  | .scr l => .ok l s1
  | _ => .stuck
theorem di_list (hK : X.K = C.K) (he : DV X C W e fe) : DI X C W tg e (iSeq fe) := by
  obtain ⟨te, pe, qe⟩ := he.pr
  refine ⟨_, pi_list pe, fun F A H σ s Q o p => ?_⟩
  refine qe F A H σ s _ o (p.seq fun a s1 v F1 A1 H1 _ o1 st1 r1 p1 => ?_)
  cases r1 with
  | @lst b xs l h1 h2 =>
    have hS : ∀ H2, Same F1 H2 → SqL X.K H2 b xs := fun H2 sm => .inl (.inl (sm _ _ h1))
    have hw : Walk (Itl X.K b) l.length (fun H => SqL X.K H b xs) (YAt xs) := by rw [← h2.length]; exact walk_list
    exact ⟨b, rfl, ⟨xs, hS H1 o1.sub⟩, Post.now o1 p1 ⟨_, _, hw, hS, yat_ok h2⟩⟩
  | _ => exact p1.elim
theorem di_scr (hK : X.K = C.K) (he : DV X C W e fe) : DI X C W tg e (iScr fe) := by
  obtain ⟨te, pe, qe⟩ := he.pr
  refine ⟨_, pi_list pe, fun F A H σ s Q o p => ?_⟩
  refine qe F A H σ s _ o (p.seq fun a s1 v F1 A1 H1 _ o1 st1 r1 p1 => ?_)
  cases r1 with
  | @scr b xs l h1 h2 =>
    have hS : ∀ H2, Same F1 H2 → SqL X.K H2 b xs := fun H2 sm => by rw [hK]; exact sm.seq h1
    have hw : Walk (Itl X.K b) l.length (fun H => SqL X.K H b xs) (YAt xs) := by rw [← h2.length]; exact walk_list
    exact ⟨b, rfl, ⟨xs, hS H1 o1.sub⟩, Post.now o1 p1 ⟨_, _, hw, hS, yat_ok h2⟩⟩
  | _ => exact p1.elim
theorem di_tup (hK : X.K = C.K) (he : DV X C W e fe) : DI X C W tg e (iTupS fe) := by
  obtain ⟨te, pe, qe⟩ := he.pr
  refine ⟨_, pi_tup pe, fun F A H σ s Q o p => ?_⟩
  refine qe F A H σ s _ o (p.seq fun a s1 v F1 A1 H1 _ o1 st1 r1 p1 => ?_)
  cases r1 with
  | @tup b xs l h1 h2 =>
    have hS : ∀ H2, Same F1 H2 → SqT X.K H2 b xs := fun H2 sm => by rw [hK]; exact sqT_mono sm h1
    have hw : Walk (Itt X.K b) l.length (fun H => SqT X.K H b xs) (YAt xs) := by rw [← h2.length]; exact walk_tup
    exact ⟨b, rfl, ⟨xs, hS H1 o1.sub⟩, Post.now o1 p1 ⟨_, _, hw, hS, yat_ok h2⟩⟩
  | _ => exact p1.elim
/-- lo, lo + 1, .. -/
def rng (lo : Int) (n : Nat) : List PV := (List.range n).map fun i : Nat => PV.int (lo + i)
theorem rng_length (lo : Int) (n : Nat) : (rng lo n).length = n := by simp [rng]
/-- held back: the kernel shall not count it -/
noncomputable def inR (j : Int) : Bool := Classical.choose (⟨decide (-(2 ^ 62) ≤ j ∧ j < 2 ^ 62), rfl⟩ : ∃ b : Bool, b = decide (-(2 ^ 62) ≤ j ∧ j < 2 ^ 62))
theorem inR_def (j : Int) : inR j = decide (-(2 ^ 62) ≤ j ∧ j < 2 ^ 62) := Classical.choose_spec (⟨decide (-(2 ^ 62) ≤ j ∧ j < 2 ^ 62), rfl⟩ : ∃ b : Bool, b = decide (-(2 ^ 62) ≤ j ∧ j < 2 ^ 62))
theorem inR_iff {j : Int} : inR j = true ↔ -(2 ^ 62) ≤ j ∧ j < 2 ^ 62 := by rw [inR_def, decide_eq_true_eq]
noncomputable def iRange1 (fa : Stt → Res (List PV)) : Stt → Res (List PV) := fun s => (fa s).bind fun p s1 => match p with
  | [.int j] => if inR j = true then .ok (rng 0 j.toNat) s1 else .stuck
  | _ => .stuck
noncomputable def iRange2 (fa : Stt → Res (List PV)) : Stt → Res (List PV) := fun s => (fa s).bind fun p s1 => match p with
  | [.int i, .int j] => if (inR i && inR j) = true then .ok (rng i (j - i).toNat) s1 else .stuck
  | _ => .stuck
theorem rng_ok {F : Hp} (lo : Int) (n : Nat) : ∀ i F1 A1 H1 σ s x H2 p, OkF C F1 A1 H1 σ s → Same F F1 → YFn (fun i => V.int (lo + (i : Nat))) i H1 x H2 → (rng lo n)[i]? = some p → ∃ F2, OkF C F2 A1 H2 σ s ∧ Step C F1 A1 H1 F2 A1 H2 ∧ Rp C F2 x p := by
  rintro i F1 A1 H1 σ s x H2 p o sm ⟨rfl, rfl⟩ hp
  unfold rng at hp
  rw [List.getElem?_map] at hp
  cases e : (List.range n)[i]? with
  | none => rw [e] at hp; cases hp
  | some k =>
    rw [e] at hp
    obtain ⟨h1, h2⟩ := List.getElem?_eq_some_iff.mp e
    rw [List.getElem_range] at h2
    subst h2
    cases hp
    exact ⟨F1, o, .refl, .int _⟩
theorem di_range1 {a : Expr} {p : Pos} (hg : Gl X "range") (hm : X.mg "range" = none) (ha : DA X C W [a] fa) (hs : starEach [a] X.env = [(false, eval a X.env)] := by rfl) : DI X C W tg (.Call (.Name "range" p) [a] [] pos) (iRange1 fa) := by
  obtain ⟨te, pe, qe⟩ := ha.pr
  refine ⟨_, pi_range1 hg hm pe hs, fun F A H σ s Q o p => ?_⟩
  refine qe F A H σ s _ o (p.seq fun a s1 v F1 A1 H1 _ o1 st1 r1 p1 => ?_)
  cases r1 with
  | nil => exact p1.elim
  | cons r r' =>
    cases r' with
    | cons _ _ => cases r <;> exact p1.elim
    | nil =>
      cases r with
      | int j =>
        simp only at p1
        split at p1
        · rename_i hj
          obtain ⟨h1, h2⟩ := inR_iff.mp hj
          refine ⟨j, rfl, h1, h2, Post.now o1 p1 ?_⟩
          refine ⟨_, _, ?_, fun _ _ => trivial, rng_ok 0 j.toNat⟩
          rw [rng_length]
          exact walk_range
        · exact p1.elim
      | _ => exact p1.elim
theorem di_range2 {a b : Expr} {p : Pos} (hg : Gl X "range") (hm : X.mg "range" = none) (ha : DA X C W [a, b] fa) (hs : starEach [a, b] X.env = [(false, eval a X.env), (false, eval b X.env)] := by rfl) (hs2 : starEach [b] X.env = [(false, eval b X.env)] := by rfl) : DI X C W tg (.Call (.Name "range" p) [a, b] [] pos) (iRange2 fa) := by
  obtain ⟨te, pe, qe⟩ := ha.pr
  refine ⟨_, pi_range2 hg hm pe hs hs2, fun F A H σ s Q o p => ?_⟩
  refine qe F A H σ s _ o (p.seq fun a s1 v F1 A1 H1 _ o1 st1 r1 p1 => ?_)
  cases r1 with
  | nil => exact p1.elim
  | cons r r' =>
    cases r' with
    | nil => cases r <;> exact p1.elim
    | cons r2 r3 =>
      cases r3 with
      | cons _ _ => cases r <;> cases r2 <;> exact p1.elim
      | nil =>
        cases r with
        | int i =>
          cases r2 with
          | int j =>
            simp only at p1
            split at p1
            · rename_i hj
              rw [Bool.and_eq_true] at hj
              obtain ⟨h1, h2⟩ := inR_iff.mp hj.1
              obtain ⟨h3, h4⟩ := inR_iff.mp hj.2
              refine ⟨i, j, rfl, ⟨h1, h2, h3, h4⟩, Post.now o1 p1 ?_⟩
              refine ⟨_, _, ?_, fun _ _ => trivial, rng_ok i (j - i).toNat⟩
              rw [rng_length]
              exact walk_range
            · exact p1.elim
          | _ => exact p1.elim
        | _ => cases r2 <;> exact p1.elim
end

/-! ### a def's promise -/
/-- what a def comes to: a value, or a fresh object, and what the lent objects hold then -/
inductive FRes where
  | ok (v : PV) (mu : List MO) | own (m : MO) (mu : List MO) | ex (c : Str) (v : PV) (mu : List MO) | stuck
def noA : Nat → List Addr := fun _ => []
/-- the arguments: plain values, or lent objects -/
inductive RpA (C : Fx) (F : Hp) : List V → List SV → Prop
  | nil : RpA C F [] []
  | val {v : V} {p : PV} {vs : List V} {ps : List SV} : Rp C F v p → RpA C F vs ps → RpA C F (v :: vs) (.val p :: ps)
  | bor {k : Nat} {vs : List V} {ps : List SV} : k < C.nb → RpA C F vs ps → RpA C F (.ref (C.be k) :: vs) (.bor k :: ps)
theorem RpA.length {C : Fx} {F : Hp} {vs : List V} {ps : List SV} (h : RpA C F vs ps) : vs.length = ps.length := by
  induction h with
  | nil => rfl
  | val _ _ ih => simp [ih]
  | bor _ _ ih => simp [ih]
theorem RpA.at {C : Fx} {F : Hp} : ∀ {vs : List V} {ps : List SV} {i : Nat} {p : SV}, RpA C F vs ps → ps[i]? = some p → ∃ v, vs[i]? = some v ∧ ((∃ q, p = .val q ∧ Rp C F v q) ∨ ∃ k, p = .bor k ∧ k < C.nb ∧ v = .ref (C.be k))
  | _, _, _, _, .nil, e => by simp at e
  | _, _, 0, _, .val r _, e => by simp at e; subst e; exact ⟨_, rfl, .inl ⟨_, rfl, r⟩⟩
  | _, _, 0, _, .bor r _, e => by simp at e; subst e; exact ⟨_, rfl, .inr ⟨_, rfl, r, rfl⟩⟩
  | _, _, i + 1, _, .val _ t, e => by
    obtain ⟨v, h1, h2⟩ := RpA.at (i := i) t (by simpa using e)
    exact ⟨v, by simpa using h1, h2⟩
  | _, _, i + 1, _, .bor _ t, e => by
    obtain ⟨v, h1, h2⟩ := RpA.at (i := i) t (by simpa using e)
    exact ⟨v, by simpa using h1, h2⟩
def PostF (C : Fx) (F H : Hp) (Q : VK) (E : XK) : FRes → Prop
  | .ok v mu => ∀ u F' H', OkF C F' noA H' [] ⟨[], mu⟩ → Step C F noA H F' noA H' → Rp C F' u v → Q u H'
  | .own m mu => ∀ p F' H', OkF C F' noA H' [] ⟨[], mu⟩ → Step C F noA H F' noA H' → Fresh C F noA H F' noA H' p m → Q (.ref p) H'
  | .ex c v mu => ∀ d F' H', OkF C F' noA H' [] ⟨[], mu⟩ → Step C F noA H F' noA H' → XAt C F' H' d v → E (.ref (C.cl c)) (some d) H'
  | .stuck => False
/-- the promise: m tells all -/
def spOf (K : PySem.W.Frag) (cl : Str → Addr) (n : Nat) (m : List SV → List MO → FRes) : Sp := fun vs H Q E => vs.length = n ∧ ∃ C F ps mu, C.K = K ∧ C.cl = cl ∧ OkF C F noA H [] ⟨[], mu⟩ ∧ RpA C F vs ps ∧ PostF C F H Q E (m ps mu)
/-- from the body's end -/
def endF : Fl → FRes
  | .nx s => .ok .non s.mu
  | .rt v s => .ok v s.mu
  | .rto m s => .own m s.mu
  | .ex c v s => .ex c v s.mu
  | _ => .stuck
def start0 (n : Nat) (ps : List SV) (mu : List MO) : Stt := ⟨ps.map some ++ List.replicate (n - ps.length) none, mu⟩
def mOf (n : Nat) (g : Stt → Fl) : List SV → List MO → FRes := fun ps mu => endF (g (start0 n ps mu))

theorem okF_start {C : Fx} {F H : Hp} {N : List Str} {vs : List V} {ps : List SV} {mu : List MO} (o : OkF C F noA H [] ⟨[], mu⟩) (r : RpA C F vs ps) : OkF C F noA H (L2.start N vs) (start0 N.length ps mu) := by
  have key : ∀ (i : Nat) (x : SV), (start0 N.length ps mu).ro[i]? = some (some x) → ps[i]? = some x := fun i x e => by
    unfold start0 at e
    simp only at e
    by_cases hi : i < (ps.map some).length
    · rw [List.getElem?_append_left hi, List.getElem?_map] at e
      cases z : ps[i]? with
      | none => rw [z] at e; cases e
      | some y => rw [z] at e; cases e; rfl
    · rw [List.getElem?_append_right (Nat.le_of_not_lt hi), List.getElem?_replicate] at e
      split at e <;> cases e
  have st : ∀ (i : Nat) (v : V), vs[i]? = some v → (L2.start N vs)[i]? = some (some v) := fun i v e => by
    unfold L2.start
    have hi : i < vs.length := (List.getElem?_eq_some_iff.mp e).1
    rw [List.getElem?_append_left (by simpa using hi), List.getElem?_map, e]
    rfl
  refine ⟨?_, o.sub, fun i v e => ?_, fun i m e => ?_, o.nb, fun i k e => ?_, o.bor, fun _ _ h => absurd h (by simp [noA]), fun _ _ _ h _ => absurd h (by simp [noA]), o.freeB, o.disB⟩
  · unfold L2.start start0
    simp only [List.length_append, List.length_map, List.length_replicate, r.length]
  · obtain ⟨u, h1, h2⟩ := r.at (key i _ e)
    rcases h2 with ⟨q, e1, h3⟩ | ⟨k, e1, _⟩
    · cases e1; exact ⟨u, st i u h1, h3⟩
    · cases e1
  · obtain ⟨u, h1, h2⟩ := r.at (key i _ e)
    rcases h2 with ⟨q, e1, h3⟩ | ⟨k, e1, _⟩ <;> cases e1
  · obtain ⟨u, h1, h2⟩ := r.at (key i _ e)
    rcases h2 with ⟨q, e1, h3⟩ | ⟨k', e1, h3, h4⟩
    · cases e1
    · cases e1; subst h4; exact ⟨st i _ h1, h3⟩
theorem Step.forget {C : Fx} {F H F' H' : Hp} {A' : Nat → List Addr} (st : Step C F noA H F' A' H') : Step C F noA H F' noA H' :=
  ⟨st.s1, st.s2, fun b ⟨i, h⟩ => absurd h (by simp [noA]), st.s4, st.s5⟩
theorem postF_end {C : Fx} {W : WX} {F H : Hp} {Q : VK} {E : XK} {r : Fl} (hW : ∀ c d σ H, E c d H → W c d σ H) (p : PostF C F H Q E (endF r)) : PostS C W F noA H { nx := fun _ H' => Q .non H', rt := Q } r := by
  cases r with
  | nx s => exact fun σ F' A' H' o st => p .non F' H' o.forget st.forget .non
  | rt v s => exact fun u σ F' A' H' o st r => p u F' H' o.forget st.forget r
  | rto m s =>
    refine fun q σ F' A' H' o st f => p q F' H' o.forget st.forget ?_
    obtain ⟨fp, h1, h2⟩ := f
    refine ⟨fp, h1, fun b hb => ?_⟩
    obtain ⟨k1, k2, k3, k4⟩ := h2 b hb
    exact ⟨k1, fun ⟨i, z⟩ => absurd z (by simp [noA]), k3, k4⟩
  | ex c v s => exact fun d σ F' A' H' o st x => hW _ _ _ _ (p d F' H' o.forget st.forget x)
  | bk s => exact p.elim
  | ct s => exact p.elim
  | stuck => exact p.elim

section
variable {P : Program} {w : World} {K : PySem.W.Frag} {mg : Str → Option Value} {base : Heap} {cl : Str → Addr}
/-- what a body's derivation may use -/
structure Bd (X : Cx) (W : WX) : Prop where
  calm : X.calm = true
  own : PassesOwn (model X.prog X.w) X.A X.env X.xe
  tk : Takes X W
  hd : X.A.handled = none
  gu : X.A.guards = some []
abbrev FnP (P : Program) (w : World) (K : PySem.W.Frag) (mg : Str → Option Value) (base : Heap) (cl : Str → Addr) (k : Nat) (f : Addr) (fd : FuncData) (ps : List Str) (m : List SV → List MO → FRes) : Prop := FnG P w K mg base (L2.CX P w) k f fd ps (spOf K cl ps.length m)
/-- THE RULE for a def -/
theorem fnp {x qual : Str} {st : Stmt} {f : Addr} {fd : FuncData} {N ps : List Str} {k n : Nat} {g : Stt → Fl} (F : Fun K x qual st f fd) (S : FnScope N ps (defScope st)) (hn : N.length = n)
    (hbody : ∀ (cdv : Value) (A : Around) (outer : List Env) (s : Shared) (H : Hp) (E : XK) (C : Fx), C.K = K → C.cl = cl → Room k (A.deeper (envOfC qual (defScope st) s.heap.objs.size f cdv)) →
      Bd (cxOf (L2.CX P w) P w K mg base N qual (defScope st) f cdv A outer s H E) (fun c d _ H => E c d H) →
      DSs (cxOf (L2.CX P w) P w K mg base N qual (defScope st) f cdv A outer s H E) C (fun c d _ H => E c d H) (defBody st) g) : FnP P w K mg base cl (k + 1) f fd ps (mOf n g) := by
  subst hn
  refine fng_of F S (fun vs H Q E h => h.1) (fun cdv A outer s H vs Q E hr gu h => ?_)
  obtain ⟨hl, C, F0, as, mu, hK, hcl, o, r, p⟩ := h
  have bd : Bd (cxOf (L2.CX P w) P w K mg base N qual (defScope st) f cdv A outer s H E) (fun c d _ H => E c d H) := ⟨rfl, passes_of (K := fun e s'' => L2.CX P w outer H s E e s'') rfl, takes_of rfl rfl rfl rfl, hr.hd, gu⟩
  obtain ⟨t, h1, h2⟩ := (hbody cdv A outer s H E C hK hcl hr bd).pr
  exact ⟨t, h1, h2 F0 noA H _ _ _ (okF_start (N := N) o r) (postF_end (fun _ _ _ _ h => h) p)⟩
end
end PL

/-! PL4: fresh objects, calls of defs. -/
namespace PL
open PySem PySem.Spec PyProof.Rows L2

/-! ### fresh objects -/
def PostO (C : Fx) (W : WX) (F : Hp) (A : Nat → List Addr) (H : Hp) (σ : L2.St) (r : Res MO) (Q : VK) : Prop :=
  match r with
  | .ok m s => ∀ p F' A' H', OkF C F' A' H' σ s → Step C F A H F' A' H' → Fresh C F A H F' A' H' p m → Q (.ref p) H'
  | .ex c v s => ∀ d F' A' H', OkF C F' A' H' σ s → Step C F A H F' A' H' → XAt C F' H' d v → W (.ref (C.cl c)) (some d) σ H'
  | .stuck => False
/-- e comes to a fresh object -/
structure DO (X : Cx) (C : Fx) (W : WX) (e : Expr) (f : Stt → Res MO) : Prop where
  pr : ∃ te, PE X e te ∧ ∀ F A H σ s Q, OkF C F A H σ s → PostO C W F A H σ (f s) Q → te σ H Q
theorem PostO.after {C : Fx} {W : WX} {F F1 H H1 : Hp} {A A1 : Nat → List Addr} {σ : L2.St} {r : Res MO} {Q : VK} (st : Step C F A H F1 A1 H1) (p : PostO C W F A H σ r Q) : PostO C W F1 A1 H1 σ r Q := by
  cases r with
  | ok a s => exact fun v F' A' H' o t q => p v F' A' H' o (st.trans t) (q.after st)
  | ex c v s => exact fun d F' A' H' o t q => p d F' A' H' o (st.trans t) q
  | stuck => exact p
theorem PostO.seq {α β : Type} {C : Fx} {W : WX} {R : Hp → Hp → β → α → Prop} {F H : Hp} {A : Nat → List Addr} {σ : L2.St} {r : Res α} {f : α → Stt → Res MO} {Q : VK} {Q1 : β → Hp → Prop}
    (p : PostO C W F A H σ (r.bind f) Q)
    (k : ∀ a s v F' A' H', r = .ok a s → OkF C F' A' H' σ s → Step C F A H F' A' H' → R F' H' v a → PostO C W F' A' H' σ (f a s) Q → Q1 v H') : Post C W R F A H σ r Q1 := by
  cases r with
  | ok a s => exact fun v F' A' H' o t q => k a s v F' A' H' rfl o t q (p.after t)
  | ex c v s => exact p
  | stuck => exact p
/-- a new object that is not known to the plain part -/
theorem OkF.fresh {C : Fx} {F H : Hp} {A : Nat → List Addr} {σ : L2.St} {s : Stt} {p : Addr} {u : HO} {m : MO} (o : OkF C F A H σ s) (hp : H p = none) (hm : MAt C F (upd H p u) p [p] m) : OkF C F A (upd H p u) σ s ∧ Step C F A H F A (upd H p u) ∧ Fresh C F A H F A (upd H p u) p m := by
  have hF : F p = none := o.sub.free hp
  have sH : Same H (upd H p u) := fun b u e => by rw [upd_ne (ne_of_none e hp)]; exact e
  have nA : ∀ i, p ∉ A i := fun i z => (o.free i p z).2 hp
  have nB : ∀ q, q < C.nb → p ∉ C.Bf q := fun q hq z => by
    have hm : q < s.mu.length := by rw [o.nb]; exact hq
    exact (o.bor q s.mu[q] (List.getElem?_eq_getElem hm)).there p z hp
  refine ⟨⟨o.len, o.sub.trans sH, o.val, fun i m e => ?_, o.nb, o.lent, fun q m e => ?_, fun i b hb => ?_, o.dis, o.freeB, o.disB⟩, ⟨fun _ _ h => h, fun _ h => .inl h, fun _ h => .inl h, fun b x e _ _ => sH b x e, fun b hb => ?_⟩, [p], hm, fun b hb => ?_⟩
  · obtain ⟨q, h1, h2⟩ := o.own i m e
    exact ⟨q, h1, h2.keep (fun _ _ h => h) fun b x _ => sH b x⟩
  · exact (o.bor q m e).keep (fun _ _ h => h) fun b x _ => sH b x
  · obtain ⟨h1, h2⟩ := o.free i b hb
    have hne : b ≠ p := fun z => nA i (z ▸ hb)
    exact ⟨h1, by rw [upd_ne hne]; exact h2⟩
  · by_cases hbp : b = p
    · subst hbp; rw [upd_same]; simp
    · rw [upd_ne hbp]; exact hb
  · rw [List.mem_singleton] at hb
    subst hb
    exact ⟨hF, fun ⟨i, z⟩ => nA i z, fun ⟨q, hq, z⟩ => nB q hq z, .inl hp⟩
/-- a fresh list is a plain value from now on -/
theorem OkF.freeze {C : Fx} {F F' H H' : Hp} {A A' : Nat → List Addr} {σ : L2.St} {s : Stt} {p : Addr} {l : List PV} (o : OkF C F' A' H' σ s) (st : Step C F A H F' A' H') (f : Fresh C F A H F' A' H' p (.lst l)) :
    ∃ F2, OkF C F2 A' H' σ s ∧ Step C F A H F2 A' H' ∧ Rp C F2 (.ref p) (.lst l) := by
  obtain ⟨fp, ⟨rfl, xs, hx, hr⟩, hf⟩ := f
  obtain ⟨k1, k2, k3, k4⟩ := hf p List.mem_cons_self
  have sF : Same F' (upd F' p (.lst xs)) := fun b u e => by rw [upd_ne (ne_of_none e k1)]; exact e
  refine ⟨upd F' p (.lst xs), ⟨o.len, fun b u e => ?_, fun i v e => ?_, fun i m e => ?_, o.nb, o.lent, fun q m e => ?_, fun i b hb => ?_, o.dis, fun q b hq hb => ?_, o.disB⟩, ⟨st.s1.trans sF, fun b hb => ?_, st.s3, st.s4, st.s5⟩, .lst upd_same (hr.mono sF)⟩
  · by_cases hb : b = p
    · subst hb; rw [upd_same] at e; cases e; exact hx
    · rw [upd_ne hb] at e; exact o.sub b u e
  · obtain ⟨u, h1, h2⟩ := o.val i v e
    exact ⟨u, h1, h2.mono sF⟩
  · obtain ⟨q, h1, h2⟩ := o.own i m e
    exact ⟨q, h1, h2.keep sF fun b x _ h => h⟩
  · exact (o.bor q m e).keep sF fun b x _ h => h
  · obtain ⟨h1, h2⟩ := o.free i b hb
    have hne : b ≠ p := fun z => k2 ⟨i, z ▸ hb⟩
    exact ⟨by rw [upd_ne hne]; exact h1, h2⟩
  · obtain ⟨h1, h2⟩ := o.freeB q b hq hb
    have hne : b ≠ p := fun z => k3 ⟨q, hq, z ▸ hb⟩
    exact ⟨by rw [upd_ne hne]; exact h1, h2⟩
  · by_cases hbp : b = p
    · subst hbp
      rcases k4 with z | z
      · exact .inr (.inl z)
      · exact .inr (.inr z)
    · rw [upd_ne hbp] at hb; exact st.s2 b hb
def frz (f : Stt → Res MO) : Stt → Res PV := fun s => (f s).bind fun m s1 => match m with
  | .lst l => .ok (.lst l) s1
  | _ => .stuck
section
variable {X : Cx} {C : Fx} {W : WX} {e tg : Expr} {es : List Expr} {pos : Pos} {fe : Stt → Res PV} {fo : Stt → Res MO} {fa : Stt → Res (List PV)} {g h : Stt → Fl}
theorem dv_frz (he : DO X C W e fo) : DV X C W e (frz fo) := by
  obtain ⟨te, pe, qe⟩ := he.pr
  refine ⟨te, pe, fun F A H σ s Q o p => qe F A H σ s Q o ?_⟩
  unfold frz at p
  cases hr : fo s with
  | ok m s1 =>
    rw [hr] at p
    cases m with
    | lst l =>
      intro q F' A' H' o1 st1 fr
      obtain ⟨F2, o2, st2, r2⟩ := o1.freeze st1 fr
      exact p _ F2 A' H' o2 st2 r2
    | _ => exact p.elim
  | ex c v s1 => rw [hr] at p; exact p
  | stuck => rw [hr] at p; exact p
def gAsgO (i : Nat) (fo : Stt → Res MO) : Stt → Fl := fun s => (fo s).fl fun m s1 => if i < s1.ro.length then .nx (setO i m s1) else .stuck
theorem ds_setO {i : Nat} {x : Str} {pos' : Pos} (hN : X.N.Nodup) (hi : X.N[i]? = some x) (hx : Loc X.env.scope x) (he : DO X C W e fo) (hs : swapsWith e (some (.Name x pos')) pos.line X.env = pure false := by rfl) (hf : X.fn x = true ∨ X.env.scope.names.lookup x = some .local := by first | exact .inl rfl | exact .inr rfl | assumption) :
    DS X C W (.Assign [.Name x pos'] e pos) (gAsgO i fo) := by
  obtain ⟨te, pe, qe⟩ := he.pr
  refine ⟨_, ps_set hN hi hx pe hs hf, fun F A H σ s D o pp => ?_⟩
  refine qe F A H σ s _ o ?_
  unfold gAsgO at pp
  cases hr : fo s with
  | ok m s1 =>
    rw [hr] at pp
    intro q F' A' H' o1 st1 fr
    simp only [Res.fl] at pp
    split at pp
    · rename_i hl
      obtain ⟨A2, o2, st2⟩ := o1.setO st1 fr hl
      exact pp _ F' A2 H' o2 st2
    · exact pp.elim
  | ex c v s1 => rw [hr] at pp; exact fun d F' A' H' => pp d σ F' A' H'
  | stuck => rw [hr] at pp; exact pp
def gRetO (fo : Stt → Res MO) : Stt → Fl := fun s => (fo s).fl fun m s1 => .rto m s1
theorem ds_retO (he : DO X C W e fo) : DS X C W (.Return (some e) pos) (gRetO fo) := by
  obtain ⟨te, pe, qe⟩ := he.pr
  refine ⟨_, ps_ret pe, fun F A H σ s D o pp => ?_⟩
  refine qe F A H σ s _ o ?_
  unfold gRetO at pp
  cases hr : fo s with
  | ok m s1 =>
    rw [hr] at pp
    exact fun q F' A' H' o1 st1 fr => pp q σ F' A' H' o1 st1 fr
  | ex c v s1 => rw [hr] at pp; exact fun d F' A' H' => pp d σ F' A' H'
  | stuck => rw [hr] at pp; exact pp
/-- displays -/
def eTup (fa : Stt → Res (List PV)) : Stt → Res PV := fun s => (fa s).bind fun l s1 => if l.length ≤ 16777216 then .ok (.tup l) s1 else .stuck
def oLst (fa : Stt → Res (List PV)) : Stt → Res MO := fun s => (fa s).bind fun l s1 => if l.length ≤ 16777216 then .ok (.lst l) s1 else .stuck
theorem line_le {n : Nat} (h : n ≤ 16777216) : n ≤ sizeLine := by rw [sizeLine_eq]; exact h
theorem dv_tup {x1} (ha : DA X C W es fa) : DV X C W (.Tuple es x1 pos) (eTup fa) := by
  obtain ⟨ta, pa, qa⟩ := ha.pr
  refine ⟨_, pe_tup pa, fun F A H σ s Q o p => ?_⟩
  refine qa F A H σ s _ o (p.seq fun l s1 xs F1 A1 H1 _ o1 st1 r1 p1 => ?_)
  split at p1
  · rename_i hl
    refine ⟨by rw [r1.length]; exact line_le hl, fun q hq => ?_⟩
    obtain ⟨o2, st2⟩ := o1.alloc (o := .tup xs) hq
    exact p1 _ _ _ _ o2 st2 (.tup (.of upd_same) (r1.mono st2.s1))
  · exact p1.elim
theorem do_lst (ha : DA X C W es fa) : DO X C W (.List es pos) (oLst fa) := by
  obtain ⟨ta, pa, qa⟩ := ha.pr
  refine ⟨_, pe_lst pa, fun F A H σ s Q o p => ?_⟩
  refine qa F A H σ s _ o (PostO.seq p fun l s1 xs F1 A1 H1 _ o1 st1 r1 p1 => ?_)
  split at p1
  · rename_i hl
    refine ⟨by rw [r1.length]; exact line_le hl, fun q hq => ?_⟩
    obtain ⟨o2, st2, f2⟩ := o1.fresh (u := .lst xs) (m := .lst l) hq ⟨rfl, xs, upd_same, r1⟩
    exact p1 q _ _ _ o2 st2 f2
  · exact p1.elim
end

/-! ### calls of defs -/
inductive AV where
  | pv (p : PV) | sl (i : Nat)
inductive RAs (C : Fx) (σ : L2.St) (F : Hp) : List V → List AV → Prop
  | nil : RAs C σ F [] []
  | pv {v : V} {p : PV} {vs : List V} {ps : List AV} : Rp C F v p → RAs C σ F vs ps → RAs C σ F (v :: vs) (.pv p :: ps)
  | sl {v : V} {i : Nat} {vs : List V} {ps : List AV} : σ[i]? = some (some v) → RAs C σ F vs ps → RAs C σ F (v :: vs) (.sl i :: ps)
theorem RAs.mono {C : Fx} {σ : L2.St} {F F' : Hp} (e : Same F F') {vs : List V} {ps : List AV} (h : RAs C σ F vs ps) : RAs C σ F' vs ps := by
  induction h with
  | nil => exact .nil
  | pv r _ ih => exact .pv (r.mono e) ih
  | sl r _ ih => exact .sl r ih
structure DL (X : Cx) (C : Fx) (W : WX) (es : List Expr) (f : Stt → Res (List AV)) : Prop where
  pr : ∃ te, PA X es te ∧ ∀ F A H σ s Q, OkF C F A H σ s → Post C W (fun F _ vs ps => RAs C σ F vs ps) F A H σ (f s) Q → te σ H Q
def lNil : Stt → Res (List AV) := fun s => .ok [] s
def lPv (fa : Stt → Res PV) (fb : Stt → Res (List AV)) : Stt → Res (List AV) := fun s => (fa s).bind fun p s1 => (fb s1).bind fun q s2 => .ok (.pv p :: q) s2
def lSl (i : Nat) (fb : Stt → Res (List AV)) : Stt → Res (List AV) := fun s => match s.ro[i]? with
  | some (some (.own _)) => (fb s).bind fun q s2 => .ok (.sl i :: q) s2
  | some (some (.bor _)) => (fb s).bind fun q s2 => .ok (.sl i :: q) s2
  | _ => .stuck

/-- an object's name: the one that slot i owns, the k-th that was lent -/
inductive MKey where
  | inl (i : Nat) | inr (k : Nat)
  deriving DecidableEq
def keyOf (s : Stt) (i : Nat) : Option MKey := match s.ro[i]? with
  | some (some (.own _)) => some (.inl i)
  | some (some (.bor k)) => some (.inr k)
  | _ => none
def getK (s : Stt) : MKey → Option MO
  | .inl i => match s.ro[i]? with
    | some (some (.own m)) => some m
    | _ => none
  | .inr k => s.mu[k]?
def setK (s : Stt) : MKey → MO → Stt
  | .inl i, m => ⟨s.ro.set i (some (.own m)), s.mu⟩
  | .inr k, m => ⟨s.ro, s.mu.set k m⟩
def lowerA (s : Stt) : List AV → List MKey → Option (List SV × List MKey)
  | [], ks => some ([], ks)
  | .pv p :: r, ks => match lowerA s r ks with
    | some (ps, ks') => some (.val p :: ps, ks')
    | none => none
  | .sl i :: r, ks => match keyOf s i with
    | none => none
    | some k => match lowerA s r (ks ++ [k]) with
      | some (ps, ks') => some (.bor ks.length :: ps, ks')
      | none => none
def getAll (s : Stt) : List MKey → Option (List MO)
  | [] => some []
  | k :: r => match getK s k, getAll s r with
    | some m, some ms => some (m :: ms)
    | _, _ => none
def setAll : Stt → List MKey → List MO → Stt
  | s, k :: r, m :: ms => setAll (setK s k m) r ms
  | s, _, _ => s
def distinct : List MKey → Bool
  | [] => true
  | k :: r => decide (k ∉ r) && distinct r
def eCall (m : List SV → List MO → FRes) (fa : Stt → Res (List AV)) : Stt → Res PV := fun s => (fa s).bind fun avs s1 => match lowerA s1 avs [] with
  | none => .stuck
  | some (ps, ks) => if distinct ks = true then match getAll s1 ks with
    | none => .stuck
    | some ms => match m ps ms with
      | .ok v ms' => .ok v (setAll s1 ks ms')
      | .own (.lst l) ms' => .ok (.lst l) (setAll s1 ks ms')
      | .own _ _ => .stuck
      | .ex c v ms' => .ex c v (setAll s1 ks ms')
      | .stuck => .stuck
    else .stuck
def oCall (m : List SV → List MO → FRes) (fa : Stt → Res (List AV)) : Stt → Res MO := fun s => (fa s).bind fun avs s1 => match lowerA s1 avs [] with
  | none => .stuck
  | some (ps, ks) => if distinct ks = true then match getAll s1 ks with
    | none => .stuck
    | some ms => match m ps ms with
      | .ok _ _ => .stuck
      | .own o ms' => .ok o (setAll s1 ks ms')
      | .ex c v ms' => .ex c v (setAll s1 ks ms')
      | .stuck => .stuck
    else .stuck
end PL

/-! PL5: a call of a def: what the callee sees, what the caller has then. -/
namespace PL
open PySem PySem.Spec PyProof.Rows L2
mutual
theorem Rp.cg {C D : Fx} {F : Hp} (hk : D.K = C.K) (hc : D.cl = C.cl) : ∀ {v : V} {p : PV}, Rp C F v p → Rp D F v p
  | _, _, .non => .non
  | _, _, .bl b => .bl b
  | _, _, .int i => .int i
  | _, _, .str x => .str x
  | _, _, .tup h r => .tup (by rw [hk]; exact h) (Rps.cg hk hc r)
  | _, _, .lst h r => .lst h (Rps.cg hk hc r)
  | _, _, .scr h r => .scr (by rw [hk]; exact h) (Rps.cg hk hc r)
  | _, _, .ins h r => .ins (by rw [hc]; exact h) (Rpf.cg hk hc r)
theorem Rps.cg {C D : Fx} {F : Hp} (hk : D.K = C.K) (hc : D.cl = C.cl) : ∀ {v : List V} {p : List PV}, Rps C F v p → Rps D F v p
  | _, _, .nil => .nil
  | _, _, .cons h r => .cons (Rp.cg hk hc h) (Rps.cg hk hc r)
theorem Rpf.cg {C D : Fx} {F : Hp} (hk : D.K = C.K) (hc : D.cl = C.cl) : ∀ {v : List (Str × V)} {p : List (Str × PV)}, Rpf C F v p → Rpf D F v p
  | _, _, .nil => .nil
  | _, _, .cons h r => .cons (Rp.cg hk hc h) (Rpf.cg hk hc r)
end
theorem MAt.cg {C D : Fx} {F H : Hp} {p : Addr} {fp : List Addr} {m : MO} (hk : D.K = C.K) (hc : D.cl = C.cl) (h : MAt C F H p fp m) : MAt D F H p fp m := by
  cases m with
  | lst l => obtain ⟨h1, xs, h2, h3⟩ := h; exact ⟨h1, xs, h2, h3.cg hk hc⟩
  | ins c l => obtain ⟨h1, dx, fs, h2, h3⟩ := h; exact ⟨h1, dx, fs, by rw [hc]; exact h2, h3.cg hk hc⟩
  | dct l => obtain ⟨h1, ks, h2, h3, h4⟩ := h; exact ⟨h1, ks, h2, h3, h4.cg hk hc⟩
  | bag g l t b => exact h

def adr (σ : L2.St) (C : Fx) : MKey → Addr
  | .inl i => match σ[i]? with
    | some (some (.ref p)) => p
    | _ => 0
  | .inr k => C.be k
def fpr (A : Nat → List Addr) (C : Fx) : MKey → List Addr
  | .inl i => A i
  | .inr k => C.Bf k
def subC (σ : L2.St) (A : Nat → List Addr) (C : Fx) (ks : List MKey) : Fx := ⟨C.K, C.cl, ks.length, fun j => adr σ C (ks.getD j (.inl 0)), fun j => fpr A C (ks.getD j (.inl 0))⟩

theorem setAll_ro : ∀ (ks : List MKey) (ms : List MO) (s : Stt), ks.length = ms.length → ∀ (i : Nat) x, (setAll s ks ms).ro[i]? = some x → (∃ (j : Nat) (m : MO), ks[j]? = some (MKey.inl i) ∧ ms[j]? = some m ∧ x = some (SV.own m)) ∨ (s.ro[i]? = some x ∧ MKey.inl i ∉ ks)
  | [], [], s, _, i, x, h => .inr ⟨h, by simp⟩
  | [], _ :: _, s, hl, i, x, h => by simp at hl
  | _ :: _, [], s, hl, i, x, h => by simp at hl
  | k :: r, m :: ms, s, hl, i, x, h => by
    rcases setAll_ro r ms (setK s k m) (by simpa using hl) i x h with ⟨j, m', h1, h2, h3⟩ | ⟨h1, h2⟩
    · exact .inl ⟨j + 1, m', by simpa using h1, by simpa using h2, h3⟩
    · cases k with
      | inr k =>
        refine .inr ⟨h1, ?_⟩
        intro z
        rcases List.mem_cons.mp z with z | z
        · cases z
        · exact h2 z
      | inl i0 =>
        by_cases hi : i0 = i
        · subst hi
          refine .inl ⟨0, m, rfl, rfl, ?_⟩
          have h1 : (s.ro.set i0 (some (.own m)))[i0]? = some x := h1
          have hlt : i0 < s.ro.length := by
            have := (List.getElem?_eq_some_iff.mp h1).1
            rwa [List.length_set] at this
          rw [List.getElem?_set_self hlt] at h1
          cases h1; rfl
        · have h1 : (s.ro.set i0 (some (.own m)))[i]? = some x := h1
          rw [List.getElem?_set_ne hi] at h1
          refine .inr ⟨h1, fun z => ?_⟩
          rcases List.mem_cons.mp z with z | z
          · cases z; exact hi rfl
          · exact h2 z
theorem setAll_mu : ∀ (ks : List MKey) (ms : List MO) (s : Stt), ks.length = ms.length → ∀ (i : Nat) x, (setAll s ks ms).mu[i]? = some x → (∃ (j : Nat), ks[j]? = some (MKey.inr i) ∧ ms[j]? = some x) ∨ (s.mu[i]? = some x ∧ MKey.inr i ∉ ks)
  | [], [], s, _, i, x, h => .inr ⟨h, by simp⟩
  | [], _ :: _, s, hl, i, x, h => by simp at hl
  | _ :: _, [], s, hl, i, x, h => by simp at hl
  | k :: r, m :: ms, s, hl, i, x, h => by
    rcases setAll_mu r ms (setK s k m) (by simpa using hl) i x h with ⟨j, h1, h2⟩ | ⟨h1, h2⟩
    · exact .inl ⟨j + 1, by simpa using h1, by simpa using h2⟩
    · cases k with
      | inl k =>
        refine .inr ⟨h1, ?_⟩
        intro z
        rcases List.mem_cons.mp z with z | z
        · cases z
        · exact h2 z
      | inr i0 =>
        by_cases hi : i0 = i
        · subst hi
          have h1 : (s.mu.set i0 m)[i0]? = some x := h1
          have hlt : i0 < s.mu.length := by
            have := (List.getElem?_eq_some_iff.mp h1).1
            rwa [List.length_set] at this
          rw [List.getElem?_set_self hlt] at h1
          cases h1
          exact .inl ⟨0, rfl, rfl⟩
        · have h1 : (s.mu.set i0 m)[i]? = some x := h1
          rw [List.getElem?_set_ne hi] at h1
          refine .inr ⟨h1, fun z => ?_⟩
          rcases List.mem_cons.mp z with z | z
          · cases z; exact hi rfl
          · exact h2 z
theorem setAll_lens : ∀ (ks : List MKey) (ms : List MO) (s : Stt), (setAll s ks ms).ro.length = s.ro.length ∧ (setAll s ks ms).mu.length = s.mu.length
  | [], [], s => ⟨rfl, rfl⟩
  | [], _ :: _, s => ⟨rfl, rfl⟩
  | _ :: _, [], s => ⟨rfl, rfl⟩
  | k :: r, m :: ms, s => by
    obtain ⟨h1, h2⟩ := setAll_lens r ms (setK s k m)
    have e1 : (setK s k m).ro.length = s.ro.length := by cases k <;> simp [setK]
    have e2 : (setK s k m).mu.length = s.mu.length := by cases k <;> simp [setK]
    exact ⟨h1.trans e1, h2.trans e2⟩
theorem getAll_at : ∀ {ks : List MKey} {ms : List MO} {s : Stt}, getAll s ks = some ms → ks.length = ms.length ∧ ∀ (j : Nat) (k : MKey), ks[j]? = some k → ∃ m, ms[j]? = some m ∧ getK s k = some m
  | [], ms, s, h => by
    cases h
    exact ⟨rfl, fun j k e => by simp at e⟩
  | k :: r, ms, s, h => by
    unfold getAll at h
    split at h
    · rename_i m ms' e1 e2
      cases h
      obtain ⟨h1, h2⟩ := getAll_at e2
      refine ⟨by simp [h1], fun j k' e => ?_⟩
      cases j with
      | zero => simp at e; subst e; exact ⟨m, rfl, e1⟩
      | succ j => exact h2 j k' (by simpa using e)
    · cases h
theorem distinct_ne : ∀ {ks : List MKey}, distinct ks = true → ∀ (i j : Nat) (k : MKey), ks[i]? = some k → ks[j]? = some k → i = j
  | [], _, i, j, k, h, _ => by simp at h
  | k0 :: r, hd, i, j, k, h1, h2 => by
    unfold distinct at hd
    rw [Bool.and_eq_true] at hd
    have nk : k0 ∉ r := of_decide_eq_true hd.1
    cases i with
    | zero =>
      cases j with
      | zero => rfl
      | succ j =>
        simp at h1 h2
        subst h1
        exact absurd (List.mem_of_getElem? h2) nk
    | succ i =>
      cases j with
      | zero =>
        simp at h1 h2
        subst h2
        exact absurd (List.mem_of_getElem? h1) nk
      | succ j => rw [distinct_ne hd.2 i j k (by simpa using h1) (by simpa using h2)]
section
variable {C : Fx} {F H : Hp} {A : Nat → List Addr} {σ : L2.St} {s : Stt}
/-- a valid key's object -/
theorem key_at (o : OkF C F A H σ s) {k : MKey} {m : MO} (h : getK s k = some m) : MAt C F H (adr σ C k) (fpr A C k) m ∧ (∀ b, b ∈ fpr A C k → F b = none ∧ H b ≠ none) ∧ (∀ i, k = .inl i → σ[i]? = some (some (.ref (adr σ C k)))) ∧ (∀ q, k = .inr q → q < C.nb) := by
  cases k with
  | inl i =>
    unfold getK at h
    simp only at h
    split at h
    · rename_i m' e
      cases h
      obtain ⟨p, h1, h2⟩ := o.own i m e
      have ea : adr σ C (.inl i) = p := by
        show (match σ[i]? with | some (some (.ref p)) => p | _ => 0) = p
        rw [h1]
      rw [ea]
      exact ⟨h2, fun b hb => o.free i b hb, fun j e => by cases e; exact h1, fun q e => by cases e⟩
    · cases h
  | inr k =>
    have h1 := o.bor k m h
    have hk : k < C.nb := by rw [← o.nb]; exact (List.getElem?_eq_some_iff.mp h).1
    refine ⟨h1, fun b hb => ⟨(o.freeB k b hk hb).1, h1.there b hb⟩, fun j e => ?_, fun q e => ?_⟩
    · cases e
    · cases e; exact hk
theorem key_dis (o : OkF C F A H σ s) {k k' : MKey} (h : ∀ q, k = .inr q → q < C.nb) (h' : ∀ q, k' = .inr q → q < C.nb) {b : Addr} (hb : b ∈ fpr A C k) (hb' : b ∈ fpr A C k') : k = k' := by
  cases k with
  | inl i =>
    cases k' with
    | inl j => rw [o.dis i j b hb hb']
    | inr q => exact absurd hb ((o.freeB q b (h' q rfl) hb').2 i)
  | inr q =>
    cases k' with
    | inl j => exact absurd hb' ((o.freeB q b (h q rfl) hb).2 j)
    | inr q' => rw [o.disB q q' b (h q rfl) (h' q' rfl) hb hb']
theorem lower_ext : ∀ {avs : List AV} {ks ks' : List MKey} {ps : List SV}, lowerA s avs ks = some (ps, ks') → ∃ r, ks' = ks ++ r
  | [], ks, ks', ps, h => by cases h; exact ⟨[], by simp⟩
  | .pv p :: r, ks, ks', ps, h => by
    unfold lowerA at h
    split at h
    · rename_i ps' ks'' e
      cases h
      exact lower_ext e
    · cases h
  | .sl i :: r, ks, ks', ps, h => by
    unfold lowerA at h
    split at h
    · cases h
    · rename_i k e
      split at h
      · rename_i ps' ks'' e2
        cases h
        obtain ⟨x, e3⟩ := lower_ext e2
        exact ⟨k :: x, by rw [e3, List.append_assoc]; rfl⟩
      · cases h
theorem lower_rp (o : OkF C F A H σ s) {D : Fx} (hk : D.K = C.K) (hc : D.cl = C.cl) (ks0 : List MKey) (hn : D.nb = ks0.length) (hb : ∀ (j : Nat) (k : MKey), ks0[j]? = some k → D.be j = adr σ C k) :
    ∀ {avs : List AV} {vs : List V} {ks ks' : List MKey} {ps : List SV}, lowerA s avs ks = some (ps, ks') → (∃ r, ks0 = ks' ++ r) → RAs C σ F vs avs → RpA D F vs ps
  | [], vs, ks, ks', ps, h, _, r => by cases h; cases r; exact .nil
  | .pv p :: r, vs, ks, ks', ps, h, he, ra => by
    unfold lowerA at h
    split at h
    · rename_i ps' ks'' e
      cases h
      cases ra with
      | pv r1 r2 => exact .val (r1.cg hk hc) (lower_rp o hk hc ks0 hn hb e he r2)
    · cases h
  | .sl i :: r, vs, ks, ks', ps, h, he, ra => by
    unfold lowerA at h
    split at h
    · cases h
    · rename_i k ek
      split at h
      · rename_i ps' ks'' e2
        cases h
        cases ra with
        | @sl v _ vs' _ r1 r2 =>
          obtain ⟨x, e3⟩ := lower_ext e2
          obtain ⟨y, e4⟩ := he
          have ej : ks0[ks.length]? = some k := by
            rw [e4, e3]
            simp
          have hlt : ks.length < D.nb := by rw [hn]; exact (List.getElem?_eq_some_iff.mp ej).1
          have ev : v = .ref (D.be ks.length) := by
            rw [hb _ _ ej]
            unfold keyOf at ek
            split at ek
            · rename_i m e
              cases ek
              obtain ⟨p, h1, _⟩ := o.own i m e
              rw [h1] at r1
              cases r1
              show V.ref p = V.ref (match σ[i]? with | some (some (.ref p)) => p | _ => 0)
              rw [h1]
            · rename_i q e
              cases ek
              have := (o.lent i q e).1
              rw [this] at r1
              cases r1
              rfl
            · cases ek
          rw [ev]
          exact .bor hlt (lower_rp o hk hc ks0 hn hb e2 ⟨y, e4⟩ r2)
      · cases h
/-- THE CALL -/
theorem call_core (o : OkF C F A H σ s) {avs : List AV} {vs : List V} {ps : List SV} {ks : List MKey} {ms : List MO} (hl : lowerA s avs [] = some (ps, ks)) (hd : distinct ks = true) (hg : getAll s ks = some ms) (r : RAs C σ F vs avs) :
    OkF (subC σ A C ks) F noA H [] ⟨[], ms⟩ ∧ RpA (subC σ A C ks) F vs ps ∧
      ∀ F' H' ms', OkF (subC σ A C ks) F' noA H' [] ⟨[], ms'⟩ → Step (subC σ A C ks) F noA H F' noA H' →
        OkF C F' A H' σ (setAll s ks ms') ∧ Step C F A H F' A H' ∧ ∀ p m, Fresh (subC σ A C ks) F noA H F' noA H' p m → Fresh C F A H F' A H' p m := by
  obtain ⟨lms, hms⟩ := getAll_at hg
  have kg : ∀ (j : Nat) (k : MKey), ks[j]? = some k → ks.getD j (.inl 0) = k := fun j k e => by rw [List.getD_eq_getElem?_getD, e]; rfl
  have kv : ∀ (j : Nat), j < ks.length → ∃ (k : MKey) (m : MO), ks[j]? = some k ∧ ms[j]? = some m ∧ getK s k = some m := fun j hj => by
    obtain ⟨m, h1, h2⟩ := hms j ks[j] (List.getElem?_eq_getElem hj)
    exact ⟨ks[j], m, List.getElem?_eq_getElem hj, h1, h2⟩
  have nofr : ∀ {X : Addr}, ¬ OwnA noA X := fun {X} ⟨i, h⟩ => absurd h (by simp [noA])
  refine ⟨⟨rfl, o.sub, fun i v e => by simp at e, fun i m e => by simp at e, lms.symm, fun i k e => by simp at e, fun j m e => ?_, fun _ _ h => absurd h (by simp [noA]), fun _ _ _ h _ => absurd h (by simp [noA]), fun j b hj hb => ?_, fun i j b hi hj hb hb' => ?_⟩,
    lower_rp (D := subC σ A C ks) o rfl rfl ks rfl (fun j k e => by show adr σ C (ks.getD j (.inl 0)) = _; rw [kg j k e]) hl ⟨[], by simp⟩ r, fun F' H' ms' o' st => ?_⟩
  · have hj : j < ks.length := by rw [lms]; exact (List.getElem?_eq_some_iff.mp e).1
    obtain ⟨k, m', h1, h2, h3⟩ := kv j hj
    have e' : ms[j]? = some m := e
    rw [h2] at e'; cases e'
    show MAt (subC σ A C ks) F H (adr σ C (ks.getD j _)) (fpr A C (ks.getD j _)) m
    rw [kg j k h1]
    exact (key_at o h3).1.cg (by rfl) (by rfl)
  · obtain ⟨k, m', h1, h2, h3⟩ := kv j hj
    have hb' : b ∈ fpr A C (ks.getD j (.inl 0)) := hb
    rw [kg j k h1] at hb'
    exact ⟨((key_at o h3).2.1 b hb').1, fun _ h => absurd h (by simp [noA])⟩
  · obtain ⟨k, m', h1, h2, h3⟩ := kv i hi
    obtain ⟨k', m'', h1', h2', h3'⟩ := kv j hj
    have hb1 : b ∈ fpr A C (ks.getD i (.inl 0)) := hb
    have hb2 : b ∈ fpr A C (ks.getD j (.inl 0)) := hb'
    rw [kg i k h1] at hb1
    rw [kg j k' h1'] at hb2
    have ek := key_dis o (key_at o h3).2.2.2 (key_at o h3').2.2.2 hb1 hb2
    exact distinct_ne hd i j k h1 (by rw [ek]; exact h1')
  · -- behind the call
    have lms' : ks.length = ms'.length := o'.nb.symm
    have bor_in : ∀ b, Bor (subC σ A C ks) b → OwnA A b ∨ Bor C b := fun b ⟨j, hj, hb⟩ => by
      obtain ⟨k, m', h1, h2, h3⟩ := kv j hj
      have hb' : b ∈ fpr A C (ks.getD j (.inl 0)) := hb
      rw [kg j k h1] at hb'
      cases k with
      | inl i => exact .inl ⟨i, hb'⟩
      | inr q => exact .inr ⟨q, (key_at o h3).2.2.2 q rfl, hb'⟩
    have stay : ∀ k, (∀ q, k = MKey.inr q → q < C.nb) → k ∉ ks → ∀ b x, b ∈ fpr A C k → H b = some x → H' b = some x := fun k hk nk b x hb hx => by
      refine st.s4 b x hx nofr ?_
      rintro ⟨j, hj, hb2⟩
      obtain ⟨k', m', h1, h2, h3⟩ := kv j hj
      have hb' : b ∈ fpr A C (ks.getD j (.inl 0)) := hb2
      rw [kg j k' h1] at hb'
      have := key_dis o hk (key_at o h3).2.2.2 hb hb'
      rw [this] at nk
      exact nk (List.mem_of_getElem? h1)
    have keepN : ∀ b, F b = none → H b ≠ none → F' b = none := fun b h1 h2 => by
      cases e : F' b with
      | none => rfl
      | some x =>
        rcases st.s2 b (by rw [e]; simp) with z | z | z
        · exact absurd h1 z
        · exact absurd z h2
        · exact absurd z nofr
    have borKey : ∀ (q : Nat) (m : MO), s.mu[q]? = some m → getK s (.inr q) = some m := fun q m e => e
    refine ⟨⟨?_, o'.sub, fun i v e => ?_, fun i m e => ?_, ?_, fun i k e => ?_, fun k m e => ?_, fun i b hb => ?_, o.dis, fun k b hk hb => ?_, o.disB⟩, ⟨st.s1, fun b hb => ?_, fun b hb => .inl hb, fun b x hx n1 n2 => ?_, st.s5⟩, fun p m f => ?_⟩
    · rw [(setAll_lens ks ms' s).1]; exact o.len
    · rcases setAll_ro ks ms' s lms' i _ e with ⟨j, m, h1, h2, h3⟩ | ⟨h1, h2⟩
      · cases h3
      · obtain ⟨u, h3, h4⟩ := o.val i v h1
        exact ⟨u, h3, h4.mono st.s1⟩
    · rcases setAll_ro ks ms' s lms' i _ e with ⟨j, m', h1, h2, h3⟩ | ⟨h1, h2⟩
      · cases h3
        have hj : j < ks.length := (List.getElem?_eq_some_iff.mp h1).1
        obtain ⟨k, m0, g1, g2, g3⟩ := kv j hj
        rw [h1] at g1; cases g1
        refine ⟨_, (key_at o g3).2.2.1 i rfl, ?_⟩
        have z : MAt (subC σ A C ks) F' H' (adr σ C (ks.getD j (.inl 0))) (fpr A C (ks.getD j (.inl 0))) m := o'.bor j m h2
        rw [kg j _ h1] at z
        exact z.cg (by rfl) (by rfl)
      · obtain ⟨p, h3, h4⟩ := o.own i m h1
        exact ⟨p, h3, h4.keep st.s1 (stay (.inl i) (fun q z => by cases z) h2)⟩
    · rw [(setAll_lens ks ms' s).2]; exact o.nb
    · rcases setAll_ro ks ms' s lms' i _ e with ⟨j, m', h1, h2, h3⟩ | ⟨h1, h2⟩
      · cases h3
      · exact o.lent i k h1
    · rcases setAll_mu ks ms' s lms' k _ e with ⟨j, h1, h2⟩ | ⟨h1, h2⟩
      · have z : MAt (subC σ A C ks) F' H' (adr σ C (ks.getD j (.inl 0))) (fpr A C (ks.getD j (.inl 0))) m := o'.bor j m h2
        rw [kg j _ h1] at z
        exact z.cg (by rfl) (by rfl)
      · have hk : k < C.nb := by rw [← o.nb]; exact (List.getElem?_eq_some_iff.mp h1).1
        exact (o.bor k m h1).keep st.s1 (stay (.inr k) (fun q z => by cases z; exact hk) h2)
    · obtain ⟨h1, h2⟩ := o.free i b hb
      exact ⟨keepN b h1 h2, st.s5 b h2⟩
    · have hm : k < s.mu.length := by rw [o.nb]; exact hk
      have ht := (o.bor k s.mu[k] (List.getElem?_eq_getElem hm)).there b hb
      exact ⟨keepN b (o.freeB k b hk hb).1 ht, (o.freeB k b hk hb).2⟩
    · rcases st.s2 b hb with z | z | z
      · exact .inl z
      · exact .inr (.inl z)
      · exact absurd z nofr
    · refine st.s4 b x hx nofr fun z => ?_
      rcases bor_in b z with q | q
      · exact n1 q
      · exact n2 q
    · obtain ⟨fp, h1, h2⟩ := f
      refine ⟨fp, h1.cg (by rfl) (by rfl), fun b hb => ?_⟩
      obtain ⟨k1, k2, k3, k4⟩ := h2 b hb
      have hn : H b = none := by
        rcases k4 with z | z
        · exact z
        · exact absurd z nofr
      refine ⟨k1, fun ⟨i, z⟩ => (o.free i b z).2 hn, fun ⟨q, hq, z⟩ => ?_, .inl hn⟩
      have hm : q < s.mu.length := by rw [o.nb]; exact hq
      exact (o.bor q s.mu[q] (List.getElem?_eq_getElem hm)).there b z hn
end

section
variable {X : Cx} {C : Fx} {W : WX} {e a tg : Expr} {es : List Expr} {pos : Pos} {fe : Stt → Res PV} {fo : Stt → Res MO} {fa : Stt → Res (List AV)}
theorem dl_nil : DL X C W [] lNil := ⟨_, pa_nil, fun F A H σ s Q o p => Post.now o p .nil⟩
theorem dl_pv (ha : DV X C W a fe) (hs : DL X C W es fa) (he : starEach (a :: es) X.env = (false, eval a X.env) :: starEach es X.env := by rfl) : DL X C W (a :: es) (lPv fe fa) := by
  obtain ⟨ta, pa, qa⟩ := ha.pr
  obtain ⟨tb, pb, qb⟩ := hs.pr
  refine ⟨_, pa_cons pa pb he, fun F A H σ s Q o p => ?_⟩
  refine qa F A H σ s _ o (p.seq fun q1 s1 v1 F1 A1 H1 _ o1 st1 r1 p1 => ?_)
  refine qb F1 A1 H1 σ s1 _ o1 (p1.seq fun q2 s2 v2 F2 A2 H2 _ o2 st2 r2 p2 => ?_)
  exact Post.now o2 p2 (.pv (r1.mono st2.s1) r2)
theorem dl_sl (i : Nat) {x : Str} {p : Pos} (hs : DL X C W es fa) (hN : X.N[i]? = some x := by rfl) (hv : Vis X.env.scope x := by first | exact Or.inl rfl | exact Or.inr (Or.inl rfl) | exact Or.inr (Or.inr rfl)) (hd : (x == ("__debug__" : Str)) = false := by decide)
    (hcd : (x == ("__classdict__" : Str)) = false := by decide) (he : starEach (.Name x p :: es) X.env = (false, eval (.Name x p) X.env) :: starEach es X.env := by rfl) : DL X C W (.Name x p :: es) (lSl i fa) := by
  obtain ⟨tb, pb, qb⟩ := hs.pr
  refine ⟨_, pa_cons (pe_var hN hv hd hcd) pb he, fun F A H σ s Q o p => ?_⟩
  have go : ∀ v, σ[i]? = some (some v) → Post C W (fun F _ vs ps => RAs C σ F vs ps) F A H σ ((fa s).bind fun q s2 => .ok (AV.sl i :: q) s2) Q → tCons (tVar i) tb σ H Q := fun v hv p => by
    refine ⟨v, hv, ?_⟩
    refine qb F A H σ s _ o (p.seq fun q2 s2 v2 F2 A2 H2 _ o2 st2 r2 p2 => ?_)
    exact Post.now o2 p2 (.sl hv r2)
  unfold lSl at p
  split at p
  · rename_i m e
    obtain ⟨q, h1, _⟩ := o.own i m e
    exact go _ h1 p
  · rename_i k e
    exact go _ (o.lent i k e).1 p
  · exact p.elim

/-- the callee's promise from the caller's wish -/
theorem call_post {n : Nat} {m : List SV → List MO → FRes} {F H : Hp} {A : Nat → List Addr} {σ : L2.St} {s : Stt} {avs : List AV} {vs : List V} {Q : VK} (hK : X.K = C.K) (hlen : avs.length = n) (o : OkF C F A H σ s) (r : RAs C σ F vs avs)
    (p : Post C W (RV C) F A H σ (match lowerA s avs [] with
  | none => Res.stuck
  | some (ps, ks) => if distinct ks = true then match getAll s ks with
    | none => Res.stuck
    | some ms => match m ps ms with
      | .ok v ms' => Res.ok v (setAll s ks ms')
      | .own (.lst l) ms' => Res.ok (.lst l) (setAll s ks ms')
      | .own _ _ => Res.stuck
      | .ex c v ms' => Res.ex c v (setAll s ks ms')
      | .stuck => Res.stuck
    else Res.stuck) Q) : spOf X.K C.cl n m vs H Q (fun c d H => W c d σ H) := by
  have hl : vs.length = avs.length := by
    clear p hlen
    induction r with
    | nil => rfl
    | pv _ _ ih => simpa using ih
    | sl _ _ ih => simpa using ih
  cases e1 : lowerA s avs [] with
  | none => rw [e1] at p; exact p.elim
  | some pk =>
    obtain ⟨ps, ks⟩ := pk
    rw [e1] at p
    simp only at p
    split at p
    · rename_i hd
      cases e2 : getAll s ks with
      | none => rw [e2] at p; exact p.elim
      | some ms =>
        rw [e2] at p
        simp only at p
        obtain ⟨c1, c2, c3⟩ := call_core o e1 hd e2 r
        refine ⟨hl.trans hlen, subC σ A C ks, F, ps, ms, hK.symm, rfl, c1, c2, ?_⟩
        cases e3 : m ps ms with
        | ok v ms' =>
          rw [e3] at p
          intro u F' H' o' st' r'
          obtain ⟨o2, st2, _⟩ := c3 F' H' ms' o' st'
          exact p u F' A H' o2 st2 (r'.cg (by rfl) (by rfl))
        | own mo ms' =>
          rw [e3] at p
          cases mo with
          | lst l =>
            intro q F' H' o' st' f'
            obtain ⟨o2, st2, f2⟩ := c3 F' H' ms' o' st'
            obtain ⟨F2, o3, st3, r3⟩ := o2.freeze st2 (f2 q _ f')
            exact p _ F2 A H' o3 st3 r3
          | _ => exact p.elim
        | ex c v ms' =>
          rw [e3] at p
          intro d F' H' o' st' x'
          obtain ⟨o2, st2, _⟩ := c3 F' H' ms' o' st'
          obtain ⟨u, h1, h2⟩ := x'
          exact p d F' A H' o2 st2 ⟨u, h1, h2.cg (by rfl) (by rfl)⟩
        | stuck => rw [e3] at p; exact p.elim
    · exact p.elim
end
end PL

/-! PL6: tests, choices, calls, comprehensions. -/
namespace PL
open PySem PySem.Spec PyProof.Rows L2

/-! ### tests -/
def tOf (f : Stt → Res PV) : Stt → Res Bool := fun s => (f s).bind fun p s1 => match p with
  | .bl b => .ok b s1
  | _ => .stuck
def pTru : PV → Option Bool
  | .non => some false
  | .bl b => some b
  | .int i => some (i != 0)
  | .str y => if y.length ≤ 16777216 then some ((y.length : Int) != 0) else none
  | .tup l => some (!l.isEmpty)
  | .lst l => some (!l.isEmpty)
  | .scr l => some (!l.isEmpty)
  | .ins _ _ => none
def tTru (f : Stt → Res PV) : Stt → Res Bool := fun s => (f s).bind fun p s1 => Res.opt s1 (pTru p)
def tNt (f : Stt → Res Bool) : Stt → Res Bool := fun s => (f s).bind fun p s1 => .ok (!p) s1
def tAn (f g : Stt → Res Bool) : Stt → Res Bool := fun s => (f s).bind fun p s1 => if p = true then g s1 else .ok false s1
def tOrr (f g : Stt → Res Bool) : Stt → Res Bool := fun s => (f s).bind fun p s1 => if p = true then .ok true s1 else g s1
def eIf (t : Stt → Res Bool) (f g : Stt → Res PV) : Stt → Res PV := fun s => (t s).bind fun p s1 => if p = true then f s1 else g s1
def eAn (f g : Stt → Res PV) : Stt → Res PV := fun s => (f s).bind fun p s1 => match pTru p with
  | some true => g s1
  | some false => .ok p s1
  | none => .stuck
def eOr (f g : Stt → Res PV) : Stt → Res PV := fun s => (f s).bind fun p s1 => match pTru p with
  | some true => .ok p s1
  | some false => g s1
  | none => .stuck
def eNt (f : Stt → Res PV) : Stt → Res PV := fun s => (f s).bind fun p s1 => match pTru p with
  | some b => .ok (.bl !b) s1
  | none => .stuck
def eChain (op op' : PV → PV → Option PV) (fa fb fc : Stt → Res PV) : Stt → Res PV := fun s => (fa s).bind fun p s1 => (fb s1).bind fun q s2 => match op p q with
  | some (.bl true) => (fc s2).bind fun r s3 => Res.opt s3 (op' q r)
  | some (.bl false) => .ok (.bl false) s2
  | _ => .stuck

theorem tru_of {C : Fx} {F H : Hp} {K : PySem.W.Frag} {v : V} {p : PV} {b : Bool} (hK : K = C.K) (sm : Same F H) (r : Rp C F v p) (h : pTru p = some b) : TruV K v H b := by
  subst hK
  cases r with
  | non => cases h; rfl
  | bl b => cases h; rfl
  | int i => cases h; rfl
  | str y =>
    have h : (if y.length ≤ 16777216 then some ((y.length : Int) != 0) else none) = some b := h
    split at h
    · rename_i hl; cases h; exact ⟨by rw [sizeLine_eq]; exact hl, rfl⟩
    · cases h
  | @tup a xs l h1 h2 =>
    cases h
    refine .inr (.inl ⟨xs, sqT_mono sm h1, ?_⟩)
    cases h2 <;> rfl
  | @lst a xs l h1 h2 =>
    cases h
    refine .inl ⟨xs, .inl (.inl (sm _ _ h1)), ?_⟩
    cases h2 <;> rfl
  | @scr a xs l h1 h2 =>
    cases h
    refine .inl ⟨xs, sm.seq h1, ?_⟩
    cases h2 <;> rfl
  | ins _ _ => cases h

section
variable {X : Cx} {C : Fx} {W : WX} {a b c e tg : Expr} {es : List Expr} {pos : Pos} {fa fb fc fe : Stt → Res PV} {ta tb : Stt → Res Bool}
/-- a bool's value, as a test -/
theorem tOf_post {t : TE} {f : Stt → Res PV} (h : ∀ F A H σ s Q, OkF C F A H σ s → Post C W (RV C) F A H σ (f s) Q → t σ H Q) :
    ∀ F A H σ s Q, OkF C F A H σ s → Post C W RB F A H σ (tOf f s) Q → tTest t σ H Q := by
  intro F A H σ s Q o p
  refine h F A H σ s _ o (p.seq fun q s1 v F1 A1 H1 _ o1 st1 r1 p1 => ?_)
  cases r1 with
  | bl k => exact ⟨k, rfl, Post.now o1 p1 rfl⟩
  | _ => exact p1.elim
theorem dt_cmp {op : CmpOp} {r : R2} {f : PV → PV → Option PV} (ho : OpR X (compareOp op) r) (h : OpD C r f) (ha : DV X C W a fa) (hb : DV X C W b fb) (hm : behindInMarks op b = false) : DT X C W (.Compare a [op] [b] pos) (tOf (eBin f fa fb)) := by
  obtain ⟨t1, pa, qa⟩ := ha.pr
  obtain ⟨t2, pb, qb⟩ := hb.pr
  exact ⟨_, pt_cmpR ho pa pb hm, tOf_post (opPost h qa qb)⟩
theorem chain_post {r r' : R2} {f f' : PV → PV → Option PV} {t1 t2 t3 : TE} (h : OpD C r f) (h' : OpD C r' f') (qa : ∀ F A H σ s Q, OkF C F A H σ s → Post C W (RV C) F A H σ (fa s) Q → t1 σ H Q) (qb : ∀ F A H σ s Q, OkF C F A H σ s → Post C W (RV C) F A H σ (fb s) Q → t2 σ H Q) (qc : ∀ F A H σ s Q, OkF C F A H σ s → Post C W (RV C) F A H σ (fc s) Q → t3 σ H Q) :
    ∀ F A H σ s Q, OkF C F A H σ s → Post C W (RV C) F A H σ (eChain f f' fa fb fc s) Q → tChain r r' t1 t2 t3 σ H Q := by
  intro F A H σ s Q o p
  refine qa F A H σ s _ o (p.seq fun q1 s1 v1 F1 A1 H1 _ o1 st1 r1 p1 => ?_)
  refine qb F1 A1 H1 σ s1 _ o1 (p1.seq fun q2 s2 v2 F2 A2 H2 _ o2 st2 r2 p2 => ?_)
  cases e : f q1 q2 with
  | none => rw [e] at p2; exact p2.elim
  | some z =>
    rw [e] at p2
    cases z with
    | bl k =>
      refine h F2 A2 H2 σ s2 v1 v2 q1 q2 _ _ o2 (r1.mono st2.s1) r2 e fun v3 F3 A3 H3 o3 st3 r3 => ?_
      cases r3
      refine ⟨k, rfl, ?_⟩
      cases k with
      | false =>
        refine iteF ?_
        exact p2 _ F3 A3 H3 o3 st3 (.bl false)
      | true =>
        refine iteT ?_
        refine qc F3 A3 H3 σ s2 _ o3 ((p2.after st3).seq fun q4 s4 v4 F4 A4 H4 _ o4 st4 r4 p4 => ?_)
        obtain ⟨z, e4, k4⟩ := Post.opt p4
        exact h' F4 A4 H4 σ s4 v2 v4 q2 q4 z Q o4 (r2.mono (st3.s1.trans st4.s1)) r4 e4 k4
    | _ => exact p2.elim
theorem dv_chain {op op' : CmpOp} {r r' : R2} {f f' : PV → PV → Option PV} (ho : OpR X (compareOp op) r) (ho' : OpR X (compareOp op') r') (h : OpD C r f) (h' : OpD C r' f') (ha : DV X C W a fa) (hb : DV X C W b fb) (hc : DV X C W c fc)
    (hm : lastMarks [op, op'] [b, c] = false := by with_unfolding_all rfl) : DV X C W (.Compare a [op, op'] [b, c] pos) (eChain f f' fa fb fc) := by
  obtain ⟨t1, pa, qa⟩ := ha.pr
  obtain ⟨t2, pb, qb⟩ := hb.pr
  obtain ⟨t3, pc, qc⟩ := hc.pr
  exact ⟨_, pe_chain ho ho' pa pb pc hm, chain_post h h' qa qb qc⟩
theorem dt_chain {op op' : CmpOp} {r r' : R2} {f f' : PV → PV → Option PV} (ho : OpR X (compareOp op) r) (ho' : OpR X (compareOp op') r') (h : OpD C r f) (h' : OpD C r' f') (ha : DV X C W a fa) (hb : DV X C W b fb) (hc : DV X C W c fc)
    (hm : lastMarks [op, op'] [b, c] = false := by with_unfolding_all rfl) : DT X C W (.Compare a [op, op'] [b, c] pos) (tOf (eChain f f' fa fb fc)) := by
  obtain ⟨t1, pa, qa⟩ := ha.pr
  obtain ⟨t2, pb, qb⟩ := hb.pr
  obtain ⟨t3, pc, qc⟩ := hc.pr
  exact ⟨_, pt_chain ho ho' pa pb pc hm, tOf_post (chain_post h h' qa qb qc)⟩
theorem dt_tru (hK : X.K = C.K) (ha : DV X C W a fa) (he : ∀ whole, isTrue a X.env whole = (do let v ← whole; standAt a.pos; holding [v] (truthy v)) := by intro _; rfl) : DT X C W a (tTru fa) := by
  obtain ⟨t1, pa, qa⟩ := ha.pr
  refine ⟨_, pt_truth pa he, fun F A H σ s Q o p => ?_⟩
  refine qa F A H σ s _ o (p.seq fun q s1 v F1 A1 H1 _ o1 st1 r1 p1 => ?_)
  obtain ⟨z, e, k⟩ := Post.opt p1
  exact ⟨z, tru_of hK o1.sub r1 e, k z F1 A1 H1 o1 .refl rfl⟩
theorem dt_not (ha : DT X C W a ta) : DT X C W (.UnaryOp .Not a pos) (tNt ta) := by
  obtain ⟨t1, pa, qa⟩ := ha.pr
  refine ⟨_, pt_not pa, fun F A H σ s Q o p => ?_⟩
  refine qa F A H σ s _ o (p.seq fun q s1 v F1 A1 H1 _ o1 st1 r1 p1 => ?_)
  obtain rfl : v = q := r1
  exact Post.now o1 p1 rfl
structure DW (X : Cx) (C : Fx) (W : WX) (e : Expr) (f : Stt → Res Bool) : Prop where
  pr : ∃ te, PW X e te ∧ ∀ F A H σ s Q, OkF C F A H σ s → Post C W RB F A H σ (f s) Q → te σ H Q
theorem dw_and1 (ha : DT X C W a ta) : DW X C W (.BoolOp .And [a] pos) ta := let ⟨t, p, q⟩ := ha.pr; ⟨t, pw_and1 p, q⟩
theorem dw_or1 (ha : DT X C W a ta) : DW X C W (.BoolOp .Or [a] pos) ta := let ⟨t, p, q⟩ := ha.pr; ⟨t, pw_or1 p, q⟩
theorem dw_and (ha : DT X C W a ta) (hb : DW X C W (.BoolOp .And (b :: es) pos) tb) : DW X C W (.BoolOp .And (a :: b :: es) pos) (tAn ta tb) := by
  obtain ⟨t1, pa, qa⟩ := ha.pr
  obtain ⟨t2, pb, qb⟩ := hb.pr
  refine ⟨_, pw_and pa pb, fun F A H σ s Q o p => ?_⟩
  refine qa F A H σ s _ o (p.seq fun q s1 v F1 A1 H1 _ o1 st1 r1 p1 => ?_)
  obtain rfl : v = q := r1
  cases v with
  | true => exact iteT (qb F1 A1 H1 σ s1 Q o1 (by simpa using p1))
  | false => exact iteF (Post.now (a := false) o1 (by simpa using p1) rfl)
theorem dw_or (ha : DT X C W a ta) (hb : DW X C W (.BoolOp .Or (b :: es) pos) tb) : DW X C W (.BoolOp .Or (a :: b :: es) pos) (tOrr ta tb) := by
  obtain ⟨t1, pa, qa⟩ := ha.pr
  obtain ⟨t2, pb, qb⟩ := hb.pr
  refine ⟨_, pw_or pa pb, fun F A H σ s Q o p => ?_⟩
  refine qa F A H σ s _ o (p.seq fun q s1 v F1 A1 H1 _ o1 st1 r1 p1 => ?_)
  obtain rfl : v = q := r1
  cases v with
  | true => exact iteT (Post.now (a := true) o1 (by simpa using p1) rfl)
  | false => exact iteF (qb F1 A1 H1 σ s1 Q o1 (by simpa using p1))
theorem dt_of (h : DW X C W a ta) : DT X C W a ta := let ⟨t, p, q⟩ := h.pr; ⟨t, p.pt, q⟩
/-! ### values by truth -/
theorem dv_one {op} (h : DV X C W a fa) : DV X C W (.BoolOp op [a] pos) fa := let ⟨t, p, q⟩ := h.pr; ⟨t, pe_one p, q⟩
theorem dv_and (hK : X.K = C.K) (ha : DV X C W a fa) (hb : DV X C W (.BoolOp .And (b :: es) pos) fb) : DV X C W (.BoolOp .And (a :: b :: es) pos) (eAn fa fb) := by
  obtain ⟨t1, pa, qa⟩ := ha.pr
  obtain ⟨t2, pb, qb⟩ := hb.pr
  refine ⟨_, pe_andT pa pb, fun F A H σ s Q o p => ?_⟩
  refine qa F A H σ s _ o (p.seq fun q s1 v F1 A1 H1 _ o1 st1 r1 p1 => ?_)
  cases e : pTru q with
  | none => rw [e] at p1; exact p1.elim
  | some k =>
    rw [e] at p1
    refine ⟨k, tru_of hK o1.sub r1 e, ?_⟩
    cases k with
    | true => exact iteT (qb F1 A1 H1 σ s1 Q o1 p1)
    | false => exact iteF (Post.now o1 p1 r1)
theorem dv_or (hK : X.K = C.K) (ha : DV X C W a fa) (hb : DV X C W (.BoolOp .Or (b :: es) pos) fb) : DV X C W (.BoolOp .Or (a :: b :: es) pos) (eOr fa fb) := by
  obtain ⟨t1, pa, qa⟩ := ha.pr
  obtain ⟨t2, pb, qb⟩ := hb.pr
  refine ⟨_, pe_orT pa pb, fun F A H σ s Q o p => ?_⟩
  refine qa F A H σ s _ o (p.seq fun q s1 v F1 A1 H1 _ o1 st1 r1 p1 => ?_)
  cases e : pTru q with
  | none => rw [e] at p1; exact p1.elim
  | some k =>
    rw [e] at p1
    refine ⟨k, tru_of hK o1.sub r1 e, ?_⟩
    cases k with
    | true => exact iteT (Post.now o1 p1 r1)
    | false => exact iteF (qb F1 A1 H1 σ s1 Q o1 p1)
theorem dv_not (hK : X.K = C.K) (ha : DV X C W a fa) : DV X C W (.UnaryOp .Not a pos) (eNt fa) := by
  obtain ⟨t1, pa, qa⟩ := ha.pr
  refine ⟨_, pe_notT pa, fun F A H σ s Q o p => ?_⟩
  refine qa F A H σ s _ o (p.seq fun q s1 v F1 A1 H1 _ o1 st1 r1 p1 => ?_)
  cases e : pTru q with
  | none => rw [e] at p1; exact p1.elim
  | some k =>
    rw [e] at p1
    exact ⟨k, tru_of hK o1.sub r1 e, Post.now o1 p1 (.bl _)⟩
theorem dv_if (hc : DT X C W c ta) (ha : DV X C W a fa) (hb : DV X C W b fb) : DV X C W (.IfExp c a b pos) (eIf ta fa fb) := by
  obtain ⟨t0, pc, qc⟩ := hc.pr
  obtain ⟨t1, pa, qa⟩ := ha.pr
  obtain ⟨t2, pb, qb⟩ := hb.pr
  refine ⟨_, pe_ifExp pc pa pb, fun F A H σ s Q o p => ?_⟩
  refine qc F A H σ s _ o (p.seq fun q s1 v F1 A1 H1 _ o1 st1 r1 p1 => ?_)
  obtain rfl : v = q := r1
  cases v with
  | true => exact iteT (qa F1 A1 H1 σ s1 Q o1 (by simpa using p1))
  | false => exact iteF (qb F1 A1 H1 σ s1 Q o1 (by simpa using p1))
end

/-! ### calls of defs -/
section
variable {X : Cx} {C : Fx} {W : WX} {a b c e tg : Expr} {es : List Expr} {pos p : Pos} {fa : Stt → Res (List AV)} {f : Addr} {fd : FuncData} {ps : List Str} {k n : Nat} {m : List SV → List MO → FRes} {x : Str}
/-- the number of arguments is right -/
def avN (n : Nat) (fa : Stt → Res (List AV)) : Stt → Res (List AV) := fun s => (fa s).bind fun l s1 => if l.length = n then .ok l s1 else .stuck
theorem dv_call (F : FnP X.prog X.w X.K X.mg X.base C.cl k f fd ps m) (hr : Room k X.A) (gu : X.A.guards = some []) (tk : Takes X W) (hK : X.K = C.K) (hm : X.mg x = some (.ref f)) (hk : PySem.W.keepIn X.K (.ref f) = true) (hb : Binds X.K fd ps []) (ha : DL X C W (a :: es) fa)
    (hg : Gl X x := by rfl) (hdb : (x == ("__debug__" : Str)) = false := by decide) (he : starEach (a :: es) X.env = (false, eval a X.env) :: starEach es X.env := by rfl) (hpl : (backTo pos (starEach es X.env)).any (·.1) = false := by rfl) (hnn : ps.length = n := by rfl) :
    DV X C W (.Call (.Name x p) (a :: es) [] pos) (eCall m (avN n fa)) := by
  subst hnn
  obtain ⟨ta, pa, qa⟩ := ha.pr
  refine ⟨_, pe_callG (E := fun σ c d H => W c d σ H) F hr gu hg hm hk hb .nil (fun σ => passAt tk σ) pa hdb he hpl, fun F A H σ s Q o pp => ?_⟩
  show ta σ H fun vs H1 => spOf X.K C.cl ps.length m (vs ++ []) H1 Q (fun c d H => W c d σ H)
  unfold eCall avN at pp
  refine qa F A H σ s _ o ?_
  cases hf : fa s with
  | ok avs s1 =>
    rw [hf] at pp
    simp only [Res.bind] at pp
    intro vs F1 A1 H1 o1 st1 r1
    rw [List.append_nil]
    by_cases hl : avs.length = ps.length
    · rw [if_pos hl] at pp
      exact call_post hK hl o1 r1 (Post.after st1 pp)
    · rw [if_neg hl] at pp; exact pp.elim
  | ex c v s1 => rw [hf] at pp; exact pp
  | stuck => rw [hf] at pp; exact pp
/-- as call_post, the result a fresh object -/
theorem call_postO {F H : Hp} {A : Nat → List Addr} {σ : L2.St} {s : Stt} {avs : List AV} {vs : List V} {Q : VK} (hK : X.K = C.K) (hlen : avs.length = n) (o : OkF C F A H σ s) (r : RAs C σ F vs avs)
    (p : PostO C W F A H σ (match lowerA s avs [] with
  | none => Res.stuck
  | some (ps, ks) => if distinct ks = true then match getAll s ks with
    | none => Res.stuck
    | some ms => match m ps ms with
      | .ok _ _ => Res.stuck
      | .own o ms' => Res.ok o (setAll s ks ms')
      | .ex c v ms' => Res.ex c v (setAll s ks ms')
      | .stuck => Res.stuck
    else Res.stuck) Q) : spOf X.K C.cl n m vs H Q (fun c d H => W c d σ H) := by
  have hl : vs.length = avs.length := by
    clear p hlen
    induction r with
    | nil => rfl
    | pv _ _ ih => simpa using ih
    | sl _ _ ih => simpa using ih
  cases e1 : lowerA s avs [] with
  | none => rw [e1] at p; exact p.elim
  | some pk =>
    obtain ⟨ps, ks⟩ := pk
    rw [e1] at p
    simp only at p
    split at p
    · rename_i hd
      cases e2 : getAll s ks with
      | none => rw [e2] at p; exact p.elim
      | some ms =>
        rw [e2] at p
        simp only at p
        obtain ⟨c1, c2, c3⟩ := call_core o e1 hd e2 r
        refine ⟨hl.trans hlen, subC σ A C ks, F, ps, ms, hK.symm, rfl, c1, c2, ?_⟩
        cases e3 : m ps ms with
        | ok v ms' => rw [e3] at p; exact p.elim
        | own mo ms' =>
          rw [e3] at p
          intro q F' H' o' st' f'
          obtain ⟨o2, st2, f2⟩ := c3 F' H' ms' o' st'
          exact p q F' A H' o2 st2 (f2 q _ f')
        | ex c v ms' =>
          rw [e3] at p
          intro d F' H' o' st' x'
          obtain ⟨o2, st2, _⟩ := c3 F' H' ms' o' st'
          obtain ⟨u, h1, h2⟩ := x'
          exact p d F' A H' o2 st2 ⟨u, h1, h2.cg (by rfl) (by rfl)⟩
        | stuck => rw [e3] at p; exact p.elim
    · exact p.elim
theorem do_call (F : FnP X.prog X.w X.K X.mg X.base C.cl k f fd ps m) (hr : Room k X.A) (gu : X.A.guards = some []) (tk : Takes X W) (hK : X.K = C.K) (hm : X.mg x = some (.ref f)) (hk : PySem.W.keepIn X.K (.ref f) = true) (hb : Binds X.K fd ps []) (ha : DL X C W (a :: es) fa)
    (hg : Gl X x := by rfl) (hdb : (x == ("__debug__" : Str)) = false := by decide) (he : starEach (a :: es) X.env = (false, eval a X.env) :: starEach es X.env := by rfl) (hpl : (backTo pos (starEach es X.env)).any (·.1) = false := by rfl) (hnn : ps.length = n := by rfl) :
    DO X C W (.Call (.Name x p) (a :: es) [] pos) (oCall m (avN n fa)) := by
  subst hnn
  obtain ⟨ta, pa, qa⟩ := ha.pr
  refine ⟨_, pe_callG (E := fun σ c d H => W c d σ H) F hr gu hg hm hk hb .nil (fun σ => passAt tk σ) pa hdb he hpl, fun F A H σ s Q o pp => ?_⟩
  show ta σ H fun vs H1 => spOf X.K C.cl ps.length m (vs ++ []) H1 Q (fun c d H => W c d σ H)
  unfold oCall avN at pp
  refine qa F A H σ s _ o ?_
  cases hf : fa s with
  | ok avs s1 =>
    rw [hf] at pp
    simp only [Res.bind] at pp
    intro vs F1 A1 H1 o1 st1 r1
    rw [List.append_nil]
    by_cases hl : avs.length = ps.length
    · rw [if_pos hl] at pp
      exact call_postO hK hl o1 r1 (PostO.after st1 pp)
    · rw [if_neg hl] at pp; exact pp.elim
  | ex c v s1 => rw [hf] at pp; exact pp
  | stuck => rw [hf] at pp; exact pp
end
end PL

/-! PL7: list comprehensions. -/
namespace PL
open PySem PySem.Spec PyProof.Rows L2

def wipeR (ro : List (Option SV)) : List Nat → List (Option SV)
  | [] => ro
  | v :: vs => (wipeR ro vs).set v none
def wipeS (vs : List Nat) (s : Stt) : Stt := ⟨wipeR s.ro vs, s.mu⟩
def keepV : Option (Option SV) → Option SV
  | some (some (.val p)) => some (.val p)
  | _ => none
def backR (r0 ro : List (Option SV)) : List Nat → List (Option SV)
  | [] => ro
  | v :: vs => (backR r0 ro vs).set v (keepV r0[v]?)
/-- behind the block: the block's own names are as they were -/
def backS (vs : List Nat) (s0 s : Stt) : Stt := ⟨backR s0.ro s.ro vs, s.mu⟩
theorem wipeR_len (ro : List (Option SV)) : ∀ vs, (wipeR ro vs).length = ro.length
  | [] => rfl
  | v :: vs => by unfold wipeR; rw [List.length_set, wipeR_len ro vs]
theorem backR_len (r0 ro : List (Option SV)) : ∀ vs, (backR r0 ro vs).length = ro.length
  | [] => rfl
  | v :: vs => by unfold backR; rw [List.length_set, backR_len r0 ro vs]
theorem wipeR_some {ro : List (Option SV)} {i : Nat} {x : SV} : ∀ {vs : List Nat}, (wipeR ro vs)[i]? = some (some x) → ro[i]? = some (some x) ∧ i ∉ vs
  | [], h => ⟨h, by simp⟩
  | v :: vs, h => by
    unfold wipeR at h
    by_cases hi : v = i
    · subst hi
      have hl : v < (wipeR ro vs).length := by
        have := (List.getElem?_eq_some_iff.mp h).1
        rwa [List.length_set] at this
      rw [List.getElem?_set_self hl] at h; cases h
    · rw [List.getElem?_set_ne hi] at h
      obtain ⟨h1, h2⟩ := wipeR_some h
      exact ⟨h1, fun z => (List.mem_cons.mp z).elim (fun e => hi e.symm) h2⟩
theorem wipe_out' {σ : L2.St} {i : Nat} : ∀ {vs : List Nat}, i ∉ vs → (L2.wipe σ vs)[i]? = σ[i]?
  | [], _ => rfl
  | v :: vs, h => by
    unfold L2.wipe
    rw [List.getElem?_set_ne (fun e => h (by rw [e]; exact List.mem_cons_self))]
    exact wipe_out' fun z => h (List.mem_cons_of_mem _ z)
theorem backR_some {r0 ro : List (Option SV)} {i : Nat} {x : SV} : ∀ {vs : List Nat}, (backR r0 ro vs)[i]? = some (some x) → (i ∈ vs ∧ ∃ p, x = .val p ∧ r0[i]? = some (some (.val p))) ∨ (i ∉ vs ∧ ro[i]? = some (some x))
  | [], h => .inr ⟨by simp, h⟩
  | v :: vs, h => by
    unfold backR at h
    by_cases hi : v = i
    · subst hi
      have hl : v < (backR r0 ro vs).length := by
        have := (List.getElem?_eq_some_iff.mp h).1
        rwa [List.length_set] at this
      rw [List.getElem?_set_self hl] at h
      have h : keepV r0[v]? = some x := Option.some.inj h
      unfold keepV at h
      split at h
      · rename_i p e
        cases h
        exact .inl ⟨List.mem_cons_self, p, rfl, e⟩
      · cases h
    · rw [List.getElem?_set_ne hi] at h
      rcases backR_some h with ⟨h1, h2⟩ | ⟨h1, h2⟩
      · exact .inl ⟨List.mem_cons_of_mem _ h1, h2⟩
      · exact .inr ⟨fun z => (List.mem_cons.mp z).elim (fun e => hi e.symm) h1, h2⟩
section
variable {C : Fx} {F H : Hp} {A : Nat → List Addr} {σ : L2.St} {s : Stt}
theorem OkF.wipe (o : OkF C F A H σ s) (vs : List Nat) : OkF C F A H (L2.wipe σ vs) (wipeS vs s) :=
  ⟨by show _ = (wipeR s.ro vs).length; rw [L2.wipe_length, wipeR_len]; exact o.len, o.sub, fun i v e => by
      obtain ⟨h1, h2⟩ := wipeR_some e
      obtain ⟨u, h3, h4⟩ := o.val i v h1
      exact ⟨u, (wipe_out' h2).trans h3, h4⟩, fun i m e => by
      obtain ⟨h1, h2⟩ := wipeR_some e
      obtain ⟨u, h3, h4⟩ := o.own i m h1
      exact ⟨u, (wipe_out' h2).trans h3, h4⟩, o.nb, fun i k e => by
      obtain ⟨h1, h2⟩ := wipeR_some e
      obtain ⟨h3, h4⟩ := o.lent i k h1
      exact ⟨(wipe_out' h2).trans h3, h4⟩, o.bor, o.free, o.dis, o.freeB, o.disB⟩
theorem OkF.back {F2 H2 : Hp} {A2 : Nat → List Addr} {s2 : Stt} {vs : List Nat} (o : OkF C F A H σ s) (st : Step C F A H F2 A2 H2) (o2 : OkF C F2 A2 H2 (L2.wipe σ vs) s2) : OkF C F2 A2 H2 σ (backS vs s s2) :=
  ⟨by show _ = (backR s.ro s2.ro vs).length; rw [backR_len, ← o2.len, L2.wipe_length], o2.sub, fun i v e => by
      rcases backR_some e with ⟨h1, p, e1, h2⟩ | ⟨h1, h2⟩
      · cases e1
        obtain ⟨u, h3, h4⟩ := o.val i v h2
        exact ⟨u, h3, h4.mono st.s1⟩
      · obtain ⟨u, h3, h4⟩ := o2.val i v h2
        exact ⟨u, (wipe_out' h1).symm.trans h3, h4⟩, fun i m e => by
      rcases backR_some e with ⟨h1, p, e1, h2⟩ | ⟨h1, h2⟩
      · cases e1
      · obtain ⟨u, h3, h4⟩ := o2.own i m h2
        exact ⟨u, (wipe_out' h1).symm.trans h3, h4⟩, o2.nb, fun i k e => by
      rcases backR_some e with ⟨h1, p, e1, h2⟩ | ⟨h1, h2⟩
      · cases e1
      · obtain ⟨h3, h4⟩ := o2.lent i k h2
        exact ⟨(wipe_out' h1).symm.trans h3, h4⟩, o2.bor, o2.free, o2.dis, o2.freeB, o2.disB⟩
/-- an object that is not the state's own is changed -/
theorem OkF.other {D : Addr} {x : HO} (o : OkF C F A H σ s) (h1 : F D = none) (h2 : ¬ OwnA A D) (h3 : ¬ Bor C D) (h4 : H D ≠ none) : OkF C F A (upd H D x) σ s :=
  ⟨o.len, fun b u e => by rw [upd_ne (ne_of_none e h1)]; exact o.sub b u e, o.val, fun i m e => by
      obtain ⟨p, q1, q2⟩ := o.own i m e
      exact ⟨p, q1, q2.keep (fun _ _ h => h) fun b u hb hu => by rw [upd_ne (show b ≠ D from fun z => h2 ⟨i, z ▸ hb⟩)]; exact hu⟩, o.nb, o.lent, fun k m e => by
      have hk : k < C.nb := by rw [← o.nb]; exact (List.getElem?_eq_some_iff.mp e).1
      exact (o.bor k m e).keep (fun _ _ h => h) fun b u hb hu => by rw [upd_ne (show b ≠ D from fun z => h3 ⟨k, hk, z ▸ hb⟩)]; exact hu, fun i b hb => by
      obtain ⟨q1, q2⟩ := o.free i b hb
      exact ⟨q1, by rw [upd_ne (show b ≠ D from fun z => h2 ⟨i, z ▸ hb⟩)]; exact q2⟩, o.dis, o.freeB, o.disB⟩
theorem Step.other {F0 H0 : Hp} {A0 : Nat → List Addr} {D : Addr} {x : HO} (st : Step C F0 A0 H0 F A H) (h : H0 D = none) : Step C F0 A0 H0 F A (upd H D x) :=
  ⟨st.s1, st.s2, st.s3, fun b u e n1 n2 => by rw [upd_ne (ne_of_none e h)]; exact st.s4 b u e n1 n2, fun b e => by
    by_cases hb : b = D
    · subst hb; rw [upd_same]; simp
    · rw [upd_ne hb]; exact st.s5 b e⟩
/-- a thing that is not the state's own stays so, and as it is -/
structure Aside (C : Fx) (F : Hp) (A : Nat → List Addr) (H : Hp) (D : Addr) (x : HO) : Prop where
  a1 : F D = none
  a2 : ¬ OwnA A D
  a3 : ¬ Bor C D
  a4 : H D = some x
theorem Aside.step {F' H' : Hp} {A' : Nat → List Addr} {D : Addr} {x : HO} (a : Aside C F A H D x) (st : Step C F A H F' A' H') : Aside C F' A' H' D x where
  a1 := by
    cases e : F' D with
    | none => rfl
    | some y =>
      rcases st.s2 D (by rw [e]; simp) with z | z | z
      · exact absurd a.a1 z
      · rw [a.a4] at z; cases z
      · exact absurd z a.a2
  a2 := fun z => by
    rcases st.s3 D z with q | q
    · exact a.a2 q
    · rw [a.a4] at q; cases q
  a3 := a.a3
  a4 := st.s4 D x a.a4 a.a2 a.a3
end
theorem SameOut.wipe {vs : List Nat} {σ σ' : L2.St} (h : SameOut (fun i => decide (i ∈ vs)) σ σ') : L2.wipe σ' vs = L2.wipe σ vs := by
  have key : ∀ (us : List Nat) (i : Nat), (i ∈ us ∨ σ'[i]? = σ[i]?) → (L2.wipe σ' us)[i]? = (L2.wipe σ us)[i]? := by
    intro us
    induction us with
    | nil => intro i h; rcases h with z | z
             · cases z
             · exact z
    | cons v us ih =>
      intro i hi
      unfold L2.wipe
      by_cases e : v = i
      · subst e
        by_cases hl : v < σ.length
        · rw [List.getElem?_set_self (by rw [L2.wipe_length, h.1]; exact hl), List.getElem?_set_self (by rw [L2.wipe_length]; exact hl)]
        · rw [List.getElem?_eq_none (by rw [List.length_set, L2.wipe_length, h.1]; exact Nat.le_of_not_lt hl), List.getElem?_eq_none (by rw [List.length_set, L2.wipe_length]; exact Nat.le_of_not_lt hl)]
      · rw [List.getElem?_set_ne e, List.getElem?_set_ne e]
        refine ih i ?_
        rcases hi with z | z
        · rcases List.mem_cons.mp z with q | q
          · exact absurd q.symm e
          · exact .inl q
        · exact .inr z
  refine List.ext_getElem? fun i => key vs i ?_
  by_cases hm : i ∈ vs
  · exact .inl hm
  · exact .inr (h.2 i (decide_eq_false hm))

def compL (vs : List Nat) (a : PV → Stt → Option Stt) (ft : Stt → Res Bool) (fe : Stt → Res PV) : List PV → List PV → Stt → Res (List PV)
  | [], acc, s => .ok acc s
  | p :: r, acc, s => match a p s with
    | none => .stuck
    | some s1 => (ft s1).bind fun b s2 => if b = true then (fe s2).bind fun y s3 => if acc.length < 16777216 then compL vs a ft fe r (acc ++ [y]) (wipeS vs s3) else .stuck
      else compL vs a ft fe r acc (wipeS vs s2)
def noEx {α : Type} : Res α → Res α
  | .ok a s => .ok a s
  | _ => .stuck
def oComp (vs : List Nat) (fi : Stt → Res (List PV)) (a : PV → Stt → Option Stt) (ft : Stt → Res Bool) (fe : Stt → Res PV) : Stt → Res MO := fun s => (fi s).bind fun l s1 => (noEx (compL vs a ft fe l [] (wipeS vs s1))).bind fun acc s2 => .ok (.lst acc) (backS vs s1 s2)
theorem compL_cons (vs : List Nat) (a : PV → Stt → Option Stt) (ft : Stt → Res Bool) (fe : Stt → Res PV) (p : PV) (r acc : List PV) (s s1 : Stt) (h : a p s = some s1) : compL vs a ft fe (p :: r) acc s = (ft s1).bind fun b s2 => if b = true then (fe s2).bind fun y s3 => if acc.length < 16777216 then compL vs a ft fe r (acc ++ [y]) (wipeS vs s3) else .stuck
      else compL vs a ft fe r acc (wipeS vs s2) := by
  show (match a p s with | none => _ | some s1 => _) = _
  rw [h]
def tYesD : Stt → Res Bool := fun s => .ok true s
abbrev W0 : WX := fun _ _ _ _ => False

section
variable {C : Fx} {W : WX}
/-- the reading of a comprehension, from those of its parts -/
theorem lc_den {ti : TI} {tg : TG} {tt : TT} {te : TE} {vs : List Nat} {fi : Stt → Res (List PV)} {a : PV → Stt → Option Stt} {ft : Stt → Res Bool} {fe : Stt → Res PV}
    (qi : ∀ F A H σ s (Q : It → Hp → Prop), OkF C F A H σ s → Post C W (RI C) F A H σ (fi s) Q → ti σ H Q)
    (qg : ∀ F A H σ s x p s' Q, OkF C F A H σ s → Rp C F x p → a p s = some s' → (∀ σ' F' A' H', OkF C F' A' H' σ' s' → Step C F A H F' A' H' → SameOut (fun i => decide (i ∈ vs)) σ σ' → Q σ' H') → tg x σ H Q)
    (qt : ∀ F A H σ s Q, OkF C F A H σ s → Post C W0 RB F A H σ (ft s) Q → tt σ H Q)
    (qe : ∀ F A H σ s Q, OkF C F A H σ s → Post C W0 (RV C) F A H σ (fe s) Q → te σ H Q) :
    ∀ F A H σ s Q, OkF C F A H σ s → PostO C W F A H σ (oComp vs fi a ft fe s) Q → tLc ti tg tt te vs σ H Q := by
  intro F A H σ s Q o p
  unfold oComp at p
  refine qi F A H σ s _ o (PostO.seq p fun l s1 J F1 A1 H1 _ o1 st1 r1 p1 => ?_)
  obtain ⟨G, Y, w, hG, hY⟩ := r1
  intro D hD
  -- the list of the results
  have hF1 : F1 D = none := o1.sub.free hD
  have nA1 : ¬ OwnA A1 D := fun ⟨i, z⟩ => (o1.free i D z).2 hD
  have nB1 : ¬ Bor C D := fun ⟨q, hq, z⟩ => by
    have hm : q < s1.mu.length := by rw [o1.nb]; exact hq
    exact (o1.bor q s1.mu[q] (List.getElem?_eq_getElem hm)).there D z hD
  obtain ⟨R, hR⟩ : ∃ R, noEx (compL vs a ft fe l [] (wipeS vs s1)) = R := ⟨_, rfl⟩
  rw [hR] at p1
  have key : ∃ acc0 s0, compL vs a ft fe l [] (wipeS vs s1) = .ok acc0 s0 ∧ PostO C W F1 A1 H1 σ (.ok (.lst acc0) (backS vs s1 s0)) Q := by
    cases e : compL vs a ft fe l [] (wipeS vs s1) with
    | ok acc0 s0 => rw [e] at hR; subst hR; exact ⟨acc0, s0, rfl, p1⟩
    | ex c v s0 => rw [e] at hR; subst hR; exact p1.elim
    | stuck => rw [e] at hR; subst hR; exact p1.elim
  obtain ⟨acc0, s0, hc0, pf⟩ := key
  refine lc_it w (fun i H2 => ∃ F2 A2 s2 acc xs, OkF C F2 A2 H2 (L2.wipe σ vs) s2 ∧ Step C F1 A1 H1 F2 A2 H2 ∧ Aside C F2 A2 H2 D (.lst xs) ∧ Rps C F2 xs acc ∧ compL vs a ft fe (l.drop i) acc s2 = .ok acc0 s0) ?_ (fun i H2 _ ⟨F2, A2, s2, acc, xs, o2, st2, _⟩ => hG H2 (st2.s1.trans o2.sub)) ?_ ?_
  · refine ⟨F1, A1, wipeS vs s1, [], [], ?_, ?_, ⟨hF1, nA1, nB1, upd_same⟩, .nil, by simpa using hc0⟩
    · have := (o1.fresh (u := .lst []) (m := .lst []) hD ⟨rfl, [], upd_same, .nil⟩).1
      exact this.wipe vs
    · exact (Step.refl).other hD
  · rintro i x H2 H3 hi ⟨F2, A2, s2, acc, xs, o2, st2, as2, ra2, hc⟩ y
    have hl : l[i]? = some l[i] := List.getElem?_eq_getElem hi
    obtain ⟨F3, o3, st3, r3⟩ := hY i F2 A2 H2 _ s2 x H3 l[i] o2 st2.s1 y hl
    rw [List.drop_eq_getElem_cons hi] at hc
    cases ea : a l[i] s2 with
    | none =>
      have z : compL vs a ft fe (l[i] :: l.drop (i + 1)) acc s2 = .stuck := by
        show (match a l[i] s2 with | none => _ | some s1 => _) = _
        rw [ea]
      rw [z] at hc; cases hc
    | some s3 =>
      rw [compL_cons _ _ _ _ _ _ _ _ _ ea] at hc
      refine qg F3 A2 H3 _ s2 x l[i] s3 _ o3 r3 ea fun σ4 F4 A4 H4 o4 st4 so => ?_
      have ww : L2.wipe σ4 vs = L2.wipe σ vs := by
        have e1 := so.wipe
        have e2 : L2.wipe (L2.wipe σ vs) vs = L2.wipe σ vs := by
          refine SameOut.wipe ⟨L2.wipe_length _ _, fun i h => wipe_out' (of_decide_eq_false h)⟩
        exact e1.trans e2
      refine ⟨ww, ?_⟩
      cases hb : ft s3 with
      | ex c v s5 => rw [hb] at hc; cases hc
      | stuck => rw [hb] at hc; cases hc
      | ok b s5 =>
        refine qt F4 A4 H4 σ4 s3 _ o4 ?_
        rw [hb] at hc ⊢
        intro b' F5 A5 H5 o5 st5 rb
        obtain rfl : b' = b := rb
        have sA := ((st2.trans st3).trans st4).trans st5
        have as5 := ((as2.step st3).step st4).step st5
        cases b' with
        | false =>
          refine iteF ?_
          have hc : compL vs a ft fe (l.drop (i + 1)) acc (wipeS vs s5) = .ok acc0 s0 := by simpa using hc
          exact ⟨F5, A5, wipeS vs s5, acc, xs, by rw [← ww]; exact o5.wipe vs, sA, as5, ra2.mono ((st3.s1.trans st4.s1).trans st5.s1), hc⟩
        | true =>
          refine iteT ?_
          have hc : ((fe s5).bind fun y s3 => if acc.length < 16777216 then compL vs a ft fe (l.drop (i + 1)) (acc ++ [y]) (wipeS vs s3) else .stuck) = .ok acc0 s0 := by simpa using hc
          cases hy : fe s5 with
          | ex c v s6 => rw [hy] at hc; cases hc
          | stuck => rw [hy] at hc; cases hc
          | ok yv s6 =>
            refine qe F5 A5 H5 σ4 s5 _ o5 ?_
            rw [hy] at hc ⊢
            intro u F6 A6 H6 o6 st6 r6
            have as6 := as5.step st6
            simp only [Res.bind] at hc
            by_cases hlen : acc.length < 16777216
            · rw [if_pos hlen] at hc
              have ra6 : Rps C F6 xs acc := ra2.mono (((st3.s1.trans st4.s1).trans st5.s1).trans st6.s1)
              refine ⟨xs, as6.a4, by rw [ra6.length, sizeLine_eq]; exact hlen, F6, A6, wipeS vs s6, acc ++ [yv], xs ++ [u], ?_, (sA.trans st6).other hD, ⟨as6.a1, as6.a2, as6.a3, upd_same⟩, ra6.append (.cons r6 .nil), hc⟩
              rw [← ww]
              exact (o6.other as6.a1 as6.a2 as6.a3 (by rw [as6.a4]; simp)).wipe vs
            · rw [if_neg hlen] at hc; cases hc
  · rintro H2 ⟨F2, A2, s2, acc, xs, o2, st2, as2, ra2, hc⟩
    rw [List.drop_of_length_le (Nat.le_refl _)] at hc
    cases hc
    exact pf D F2 A2 H2 (o1.back st2 o2) st2 ⟨[D], ⟨rfl, xs, as2.a4, ra2⟩, fun b hb => by
      rw [List.mem_singleton] at hb
      subst hb
      exact ⟨as2.a1, as2.a2, as2.a3, .inl hD⟩⟩
end
section
variable {X : Cx} {C : Fx} {W : WX} {elt tg iter : Expr} {ifs : List Expr} {scope : Scope} {own : List (Str × Nat)} {pos : Pos} {fi : Stt → Res (List PV)} {a : PV → Stt → Option Stt} {ft : Stt → Res Bool} {fe : Stt → Res PV}
/-- the tests of a comprehension -/
structure DTs (X : Cx) (C : Fx) (W : WX) (ifs : List Expr) (f : Stt → Res Bool) : Prop where
  pr : ∃ te, PTs X ifs te ∧ ∀ F A H σ s Q, OkF C F A H σ s → Post C W RB F A H σ (f s) Q → te σ H Q
theorem dts_nil : DTs X C W [] tYesD := ⟨_, pts_nil, fun F A H σ s Q o p => Post.now o p rfl⟩
theorem dts_one {c : Expr} (h : DT X C W c ft) : DTs X C W [c] ft := let ⟨t, p, q⟩ := h.pr; ⟨t, pts_one p, q⟩
/-- the readings that fit every context -/
def cTE (C : Fx) (W : WX) (f : Stt → Res PV) : TE := fun σ H Q => ∃ F A s, OkF C F A H σ s ∧ Post C W (RV C) F A H σ (f s) Q
def cTT (C : Fx) (W : WX) (f : Stt → Res Bool) : TT := fun σ H Q => ∃ F A s, OkF C F A H σ s ∧ Post C W RB F A H σ (f s) Q
def cTG (C : Fx) (vs : Nat → Bool) (a : PV → Stt → Option Stt) : TG := fun x σ H Q => ∃ F A s p s', OkF C F A H σ s ∧ Rp C F x p ∧ a p s = some s' ∧ ∀ σ' F' A' H', OkF C F' A' H' σ' s' → Step C F A H F' A' H' → SameOut vs σ σ' → Q σ' H'
theorem DV.c {e : Expr} (h : DV X C W e fe) : PE X e (cTE C W fe) := by
  obtain ⟨t, p, q⟩ := h.pr
  exact ⟨fun pins s σ H Q I ⟨F, A, s1, o, pp⟩ => p.run pins s σ H Q I (q F A H σ s1 Q o pp)⟩
theorem DTs.c (h : DTs X C W ifs ft) : PTs X ifs (cTT C W ft) := by
  obtain ⟨t, p, q⟩ := h.pr
  exact ⟨fun pins s σ H Q I ⟨F, A, s1, o, pp⟩ => p.run pins s σ H Q I (q F A H σ s1 Q o pp)⟩
theorem DG.c {vs : Nat → Bool} (h : DG X C vs tg a) : PG X tg (cTG C vs a) := by
  obtain ⟨t, p, q⟩ := h.pr
  exact ⟨fun pins s σ H v u Q I r ⟨F, A, s1, pv, s2, o, rp, e, k⟩ => p.run pins s σ H v u Q I r (q F A H σ s1 v pv s2 Q o rp e k)⟩
theorem do_lc (hc : X.calm = true) (hN : X.N.Nodup) (ok : BlkOk X.N X.env.scope scope own) (hi : DI X C W tg iter fi)
    (hg : ∀ (s : Shared) (H : Hp) (L : Addr) (cl : List (Str × Addr)) (fp : List Addr), DG (X.blk s H scope (compEnvC scope cl L X.env) fp) C (fun i => decide (i ∈ own.map (·.2))) tg a)
    (ht : ∀ (s : Shared) (H : Hp) (L : Addr) (cl : List (Str × Addr)) (fp : List Addr), DTs (X.blk s H scope (compEnvC scope cl L X.env) fp) C W0 ifs ft)
    (he : ∀ (s : Shared) (H : Hp) (L : Addr) (cl : List (Str × Addr)) (fp : List Addr), DV (X.blk s H scope (compEnvC scope cl L X.env) fp) C W0 elt fe) (hs : ∀ x, foldedSetIterable iter X.env x = pure x := by intro _; rfl) :
    DO X C W (.ListComp elt [⟨tg, iter, ifs, 0⟩] scope pos) (oComp (own.map (·.2)) fi a ft fe) := by
  obtain ⟨ti, pi, qi⟩ := hi.pr
  refine ⟨_, pe_lc hc hN pi ok (fun s H L cl fp => (hg s H L cl fp).c) (fun s H L cl fp => (ht s H L cl fp).c) (fun s H L cl fp => (he s H L cl fp).c) hs, ?_⟩
  exact lc_den qi (fun F A H σ s x p s' Q o r e k => ⟨F, A, s, p, s', o, r, e, k⟩) (fun F A H σ s Q o p => ⟨F, A, s, o, p⟩) (fun F A H σ s Q o p => ⟨F, A, s, o, p⟩)
/-- name = [..] on one line, the name a local: the list is a plain value -/
theorem ds_lcV {i : Nat} {y : Str} {py spos : Pos} (hc : X.calm = true) (hN : X.N.Nodup) (hy : X.N[i]? = some y) (hyl : X.env.scope.names.lookup y = some .local)
    (hsw : swapsWith (.ListComp elt [⟨tg, iter, ifs, 0⟩] scope pos) (some (.Name y py)) spos.line X.env = pure true) (ok : BlkOk X.N X.env.scope scope own) (hi : DI X C W tg iter fi)
    (hg : ∀ (s : Shared) (H : Hp) (L : Addr) (cl : List (Str × Addr)) (fp : List Addr), DG (X.blk s H scope (compEnvC scope cl L X.env) fp) C (fun i => decide (i ∈ own.map (·.2))) tg a)
    (ht : ∀ (s : Shared) (H : Hp) (L : Addr) (cl : List (Str × Addr)) (fp : List Addr), DTs (X.blk s H scope (compEnvC scope cl L X.env) fp) C W0 ifs ft)
    (he : ∀ (s : Shared) (H : Hp) (L : Addr) (cl : List (Str × Addr)) (fp : List Addr), DV (X.blk s H scope (compEnvC scope cl L X.env) fp) C W0 elt fe) (hs : ∀ x, foldedSetIterable iter X.env x = pure x := by intro _; rfl) :
    DS X C W (.Assign [.Name y py] (.ListComp elt [⟨tg, iter, ifs, 0⟩] scope pos) spos) (gAsg (frz (oComp (own.map (·.2)) fi a ft fe)) (aName i)) := by
  obtain ⟨ti, pi, qi⟩ := hi.pr
  refine ⟨_, ps_setLc hc hN hy hyl hsw pi ok (fun s H L cl fp => (hg s H L cl fp).c) (fun s H L cl fp => (ht s H L cl fp).c) (fun s H L cl fp => (he s H L cl fp).c) hs, fun F A H σ s D o p => ?_⟩
  have den := lc_den (C := C) (W := W) (vs := own.map (·.2)) (tg := cTG C (fun i => decide (i ∈ own.map (·.2))) a) (tt := cTT C W0 ft) (te := cTE C W0 fe) qi (fun F A H σ s x p s' Q o r e k => ⟨F, A, s, p, s', o, r, e, k⟩) (fun F A H σ s Q o p => ⟨F, A, s, o, p⟩) (fun F A H σ s Q o p => ⟨F, A, s, o, p⟩)
  refine den F A H σ s _ o ?_
  unfold gAsg frz at p
  cases hr : oComp (own.map (·.2)) fi a ft fe s with
  | ok m s1 =>
    rw [hr] at p
    cases m with
    | lst l =>
      intro q F' A' H' o1 st1 fr
      obtain ⟨F2, o2, st2, r2⟩ := o1.freeze st1 fr
      obtain ⟨o3, st3⟩ := o2.setV (i := i) r2
      exact p _ _ _ _ o3 (st2.trans st3)
    | _ => exact p.elim
  | ex c v s1 => rw [hr] at p; exact fun d F' A' H' => p d σ F' A' H'
  | stuck => rw [hr] at p; exact p
/-- .. the slot owns the list -/
theorem ds_lcO {i : Nat} {y : Str} {py spos : Pos} (hc : X.calm = true) (hN : X.N.Nodup) (hy : X.N[i]? = some y) (hyl : X.env.scope.names.lookup y = some .local)
    (hsw : swapsWith (.ListComp elt [⟨tg, iter, ifs, 0⟩] scope pos) (some (.Name y py)) spos.line X.env = pure true) (ok : BlkOk X.N X.env.scope scope own) (hi : DI X C W tg iter fi)
    (hg : ∀ (s : Shared) (H : Hp) (L : Addr) (cl : List (Str × Addr)) (fp : List Addr), DG (X.blk s H scope (compEnvC scope cl L X.env) fp) C (fun i => decide (i ∈ own.map (·.2))) tg a)
    (ht : ∀ (s : Shared) (H : Hp) (L : Addr) (cl : List (Str × Addr)) (fp : List Addr), DTs (X.blk s H scope (compEnvC scope cl L X.env) fp) C W0 ifs ft)
    (he : ∀ (s : Shared) (H : Hp) (L : Addr) (cl : List (Str × Addr)) (fp : List Addr), DV (X.blk s H scope (compEnvC scope cl L X.env) fp) C W0 elt fe) (hs : ∀ x, foldedSetIterable iter X.env x = pure x := by intro _; rfl) :
    DS X C W (.Assign [.Name y py] (.ListComp elt [⟨tg, iter, ifs, 0⟩] scope pos) spos) (gAsgO i (oComp (own.map (·.2)) fi a ft fe)) := by
  obtain ⟨ti, pi, qi⟩ := hi.pr
  refine ⟨_, ps_setLc hc hN hy hyl hsw pi ok (fun s H L cl fp => (hg s H L cl fp).c) (fun s H L cl fp => (ht s H L cl fp).c) (fun s H L cl fp => (he s H L cl fp).c) hs, fun F A H σ s D o p => ?_⟩
  have den := lc_den (C := C) (W := W) (vs := own.map (·.2)) (tg := cTG C (fun i => decide (i ∈ own.map (·.2))) a) (tt := cTT C W0 ft) (te := cTE C W0 fe) qi (fun F A H σ s x p s' Q o r e k => ⟨F, A, s, p, s', o, r, e, k⟩) (fun F A H σ s Q o p => ⟨F, A, s, o, p⟩) (fun F A H σ s Q o p => ⟨F, A, s, o, p⟩)
  refine den F A H σ s _ o ?_
  unfold gAsgO at p
  cases hr : oComp (own.map (·.2)) fi a ft fe s with
  | ok m s1 =>
    rw [hr] at p
    intro q F' A' H' o1 st1 fr
    simp only [Res.fl] at p
    split at p
    · rename_i hl
      obtain ⟨A2, o2, st2⟩ := o1.setO st1 fr hl
      exact p _ F' A2 H' o2 st2
    · exact p.elim
  | ex c v s1 => rw [hr] at p; exact fun d F' A' H' => p d σ F' A' H'
  | stuck => rw [hr] at p; exact p
end
end PL

/-! PL8: operators and built-ins by plain values. -/
namespace PL
open PySem PySem.Spec PyProof.Rows L2

/-! ### numbers -/
def okMul (i j : Int) : Bool := decide (i.natAbs.log2 + j.natAbs.log2 < 1000000)
def okDiv (j : Int) : Bool := decide (j ≠ 0 ∧ j.natAbs.log2 < 9000)
def okPow (i j : Int) : Bool := decide (0 ≤ j ∧ (i.natAbs.log2 + 1) * j.toNat ≤ 1000000)
def pSub : PV → PV → Option PV
  | .int i, .int j => some (.int (i - j))
  | _, _ => none
def pFdiv : PV → PV → Option PV
  | .int i, .int j => if okDiv j = true then some (.int (i.fdiv j)) else none
  | _, _ => none
def pMod : PV → PV → Option PV
  | .int i, .int j => if j ≠ 0 then some (.int (i.fmod j)) else none
  | _, _ => none
def pPow : PV → PV → Option PV
  | .int i, .int j => if okPow i j = true then some (.int (i ^ j.toNat)) else none
  | _, _ => none
def pNeg : PV → Option PV
  | .int i => some (.int (-i))
  | _ => none
def pLt : PV → PV → Option PV
  | .int i, .int j => some (.bl (decide (i < j)))
  | _, _ => none
def pLe : PV → PV → Option PV
  | .int i, .int j => some (.bl (decide (i ≤ j)))
  | _, _ => none
def pGt : PV → PV → Option PV
  | .int i, .int j => some (.bl (decide (j < i)))
  | _, _ => none
def pGe : PV → PV → Option PV
  | .int i, .int j => some (.bl (decide (j ≤ i)))
  | _, _ => none
def pAdd : PV → PV → Option PV
  | .int i, .int j => some (.int (i + j))
  | .str x, .str y => if x.length + y.length ≤ 16777216 then some (.str (x ++ y)) else none
  | .lst x, .lst y => if x.length + y.length ≤ 16777216 then some (.lst (x ++ y)) else none
  | .tup x, .tup y => if x.length + y.length ≤ 16777216 then some (.tup (x ++ y)) else none
  | _, _ => none
def pMul : PV → PV → Option PV
  | .int i, .int j => if okMul i j = true then some (.int (i * j)) else none
  | .lst x, .int k => if -(2 ^ 63) ≤ k ∧ k < 2 ^ 63 ∧ x.length * k.toNat ≤ 16777216 then some (.lst (List.replicate k.toNat x).flatten) else none
  | _, _ => none

section
variable {X : Cx} {C : Fx}
/-- two ints -/
theorem opD_int {Cd : Int → Int → Prop} {g : Int → Int → V} {f : PV → PV → Option PV} {z : Int → Int → PV} (h : ∀ p q y, f p q = some y → ∃ i j, p = .int i ∧ q = .int j ∧ Cd i j ∧ y = z i j) (hz : ∀ F i j, Rp C F (g i j) (z i j)) : OpD C (rI Cd g) f := by
  intro F A H σ s x y p q w Q o r1 r2 e k
  obtain ⟨i, j, rfl, rfl, hc, rfl⟩ := h _ _ _ e
  cases r1
  cases r2
  exact ⟨i, j, rfl, rfl, hc, k _ F A H o .refl (hz F i j)⟩
theorem opD_int0 {g : Int → Int → V} {f : PV → PV → Option PV} {z : Int → Int → PV} (h : ∀ p q y, f p q = some y → ∃ i j, p = .int i ∧ q = .int j ∧ y = z i j) (hz : ∀ F i j, Rp C F (g i j) (z i j)) : OpD C (rI0 g) f := by
  intro F A H σ s x y p q w Q o r1 r2 e k
  obtain ⟨i, j, rfl, rfl, rfl⟩ := h _ _ _ e
  cases r1
  cases r2
  exact ⟨i, j, rfl, rfl, k _ F A H o .refl (hz F i j)⟩
theorem OpD.or {r r' : R2} {f : PV → PV → Option PV} (h : ∀ F A H σ s x y p q z (Q : VK), OkF C F A H σ s → Rp C F x p → Rp C F y q → f p q = some z →
    (∀ v F' A' H', OkF C F' A' H' σ s → Step C F A H F' A' H' → Rp C F' v z → Q v H') → r x y H Q ∨ r' x y H Q) : OpD C (fun x y H Q => r x y H Q ∨ r' x y H Q) f := h
def CDivA (i j : Int) : Prop := j ≠ 0 ∧ j.natAbs.log2 < 9000
theorem op_fdivA : OpR X (binaryOp .FloorDiv) (rI CDivA fun i j => .int (i.fdiv j)) := opI fun _ _ _ _ _ _ _ hc q => floordiv_int hc.1 q (.inl (PyProof.noPylong_of_log2 hc.2))
def CPowA (i j : Int) : Prop := 0 ≤ j ∧ (i.natAbs.log2 + 1) * j.toNat ≤ 1000000
theorem bits_log (i : Int) : Builtin.Int.intBits i ≤ i.natAbs.log2 + 1 := by
  unfold Builtin.Int.intBits
  split <;> omega
theorem op_powA : OpR X (binaryOp .Pow) (rI CPowA fun i j => .int (i ^ j.toNat)) := opI fun i j _ _ _ _ _ hc q => by
  obtain ⟨h1, h2⟩ := hc
  refine pow_int h1 ?_ q
  have b := bits_log i
  have e : ((j.toNat : Nat) : Int) = j := Int.toNat_of_nonneg h1
  have m : Builtin.Int.intBits i * j.toNat ≤ 1000000 := Nat.le_trans (Nat.mul_le_mul_right _ b) h2
  have : ((Builtin.Int.intBits i * j.toNat : Nat) : Int) ≤ ((1000000 : Nat) : Int) := Int.ofNat_le.mpr m
  rw [Int.natCast_mul, e] at this
  have z : (1000000 : Int) ≤ 2 ^ 27 := by decide
  omega
theorem d_sub : OpD C (rI0 fun i j => .int (i - j)) pSub := opD_int0 (z := fun i j => .int (i - j)) (fun p q y e => by unfold pSub at e; split at e <;> cases e; exact ⟨_, _, rfl, rfl, rfl⟩) fun _ _ _ => .int _
theorem d_lt : OpD C (rI0 fun i j => .bl (decide (i < j))) pLt := opD_int0 (z := fun i j => .bl (decide (i < j))) (fun p q y e => by unfold pLt at e; split at e <;> cases e; exact ⟨_, _, rfl, rfl, rfl⟩) fun _ _ _ => .bl _
theorem d_le : OpD C (rI0 fun i j => .bl (decide (i ≤ j))) pLe := opD_int0 (z := fun i j => .bl (decide (i ≤ j))) (fun p q y e => by unfold pLe at e; split at e <;> cases e; exact ⟨_, _, rfl, rfl, rfl⟩) fun _ _ _ => .bl _
theorem d_gt : OpD C (rI0 fun i j => .bl (decide (j < i))) pGt := opD_int0 (z := fun i j => .bl (decide (j < i))) (fun p q y e => by unfold pGt at e; split at e <;> cases e; exact ⟨_, _, rfl, rfl, rfl⟩) fun _ _ _ => .bl _
theorem d_ge : OpD C (rI0 fun i j => .bl (decide (j ≤ i))) pGe := opD_int0 (z := fun i j => .bl (decide (j ≤ i))) (fun p q y e => by unfold pGe at e; split at e <;> cases e; exact ⟨_, _, rfl, rfl, rfl⟩) fun _ _ _ => .bl _
theorem d_fdiv : OpD C (rI CDivA fun i j => .int (i.fdiv j)) pFdiv := opD_int (z := fun i j => .int (i.fdiv j)) (fun p q y e => by
  unfold pFdiv at e; split at e
  · split at e
    · rename_i h; cases e; exact ⟨_, _, rfl, rfl, (by have z := of_decide_eq_true h; exact z), rfl⟩
    · cases e
  · cases e) fun _ _ _ => .int _
theorem d_mod : OpD C (rI (fun _ j => j ≠ 0) fun i j => .int (i.fmod j)) pMod := opD_int (z := fun i j => .int (i.fmod j)) (fun p q y e => by
  unfold pMod at e; split at e
  · split at e
    · rename_i h; cases e; exact ⟨_, _, rfl, rfl, h, rfl⟩
    · cases e
  · cases e) fun _ _ _ => .int _
theorem d_pow : OpD C (rI CPowA fun i j => .int (i ^ j.toNat)) pPow := opD_int (z := fun i j => .int (i ^ j.toNat)) (fun p q y e => by
  unfold pPow at e; split at e
  · split at e
    · rename_i h; cases e; exact ⟨_, _, rfl, rfl, (by have z := of_decide_eq_true h; exact z), rfl⟩
    · cases e
  · cases e) fun _ _ _ => .int _
theorem d_neg : UnD C (rU fun i => .int (-i)) pNeg := by
  intro F A H σ s x p z Q o r e k
  cases r with
  | int i => cases e; exact ⟨i, rfl, k _ F A H o .refl (.int _)⟩
  | _ => cases e
def rAddA (K : PySem.W.Frag) : R2 := fun x y H Q => rI0 (fun i j => .int (i + j)) x y H Q ∨ ((∃ i j, x = .str i ∧ y = .str j ∧ i.length + j.length ≤ sizeLine ∧ Q (.str (i ++ j)) H) ∨ (rCat x y H Q ∨ rCatA K x y H Q))
theorem op_addA : OpR X (binaryOp .Add) (rAddA X.K) := op_add.or (op_add_str.or (op_cat.or op_catA))
theorem d_add {K : PySem.W.Frag} (hK : K = C.K) : OpD C (rAddA K) pAdd := by
  intro F A H σ s x y p q z Q o r1 r2 e k
  unfold pAdd at e
  split at e
  · cases e; cases r1; cases r2
    exact .inl ⟨_, _, rfl, rfl, k _ F A H o .refl (.int _)⟩
  · split at e
    · rename_i hl
      cases e; cases r1; cases r2
      exact .inr (.inl ⟨_, _, rfl, rfl, line_le hl, k _ F A H o .refl (.str _)⟩)
    · cases e
  · split at e
    · rename_i hl
      cases e
      cases r1 with
      | @lst a xs l h1 h2 =>
        cases r2 with
        | @lst b ys l' h3 h4 =>
          refine .inr (.inr (.inl ⟨a, b, xs, ys, rfl, rfl, o.sub _ _ h1, o.sub _ _ h3, by rw [h2.length, h4.length]; exact line_le hl, fun p hp => ?_⟩))
          obtain ⟨o2, st2⟩ := o.alloc (o := .lst (xs ++ ys)) hp
          exact k _ _ _ _ o2 st2 (.lst upd_same ((h2.append h4).mono st2.s1))
    · cases e
  · split at e
    · rename_i hl
      cases e
      cases r1 with
      | @tup a xs l h1 h2 =>
        cases r2 with
        | @tup b ys l' h3 h4 =>
          refine .inr (.inr (.inr ⟨a, b, xs, ys, rfl, rfl, by rw [hK]; exact sqT_mono o.sub h1, by rw [hK]; exact sqT_mono o.sub h3, by rw [h2.length, h4.length]; exact line_le hl, fun e => ?_, fun _ e => ?_, fun _ _ p hp => ?_⟩))
          · subst e
            cases h2
            exact k _ F A H o .refl (.tup h3 h4)
          · subst e
            cases h4
            rw [List.append_nil] at k
            exact k _ F A H o .refl (.tup h1 h2)
          · obtain ⟨o2, st2⟩ := o.alloc (o := .tup (xs ++ ys)) hp
            exact k _ _ _ _ o2 st2 (.tup (.of upd_same) ((h2.append h4).mono st2.s1))
    · cases e
  · cases e
def rMulA : R2 := fun x y H Q => rI CMulW (fun i j => .int (i * j)) x y H Q ∨ rRep x y H Q
theorem op_mulA : OpR X (binaryOp .Mult) rMulA := op_mulW.or op_rep
theorem Rps.rep {F : Hp} {xs : List V} {l : List PV} (r : Rps C F xs l) : ∀ k : Nat, Rps C F (List.replicate k xs).flatten (List.replicate k l).flatten
  | 0 => .nil
  | k + 1 => by
    rw [List.replicate_succ, List.replicate_succ, List.flatten_cons, List.flatten_cons]
    exact r.append (Rps.rep r k)
theorem d_mul : OpD C rMulA pMul := by
  intro F A H σ s x y p q z Q o r1 r2 e k
  unfold pMul at e
  split at e
  · split at e
    · rename_i h
      cases e; cases r1; cases r2
      exact .inl ⟨_, _, rfl, rfl, (by have z := of_decide_eq_true h; exact z), k _ F A H o .refl (.int _)⟩
    · cases e
  · split at e
    · rename_i h
      cases e
      cases r2
      cases r1 with
      | @lst a xs l h1 h2 =>
        refine .inr ⟨a, _, xs, rfl, rfl, o.sub _ _ h1, h.1, h.2.1, by rw [h2.length]; exact line_le h.2.2, fun p hp => ?_⟩
        obtain ⟨o2, st2⟩ := o.alloc (o := .lst (List.replicate (Int.toNat _) xs).flatten) hp
        exact k _ _ _ _ o2 st2 (.lst upd_same ((h2.rep _).mono st2.s1))
    · cases e
  · cases e
end

/-! ### data, ==, in -/
mutual
def toD : PV → Option PyData
  | .non => some .none
  | .bl b => some (.bool b)
  | .int i => some (.int i)
  | .str x => some (.str x)
  | .tup l => (toDs l).map .tuple
  | .lst l => (toDs l).map .list
  | .scr l => (toDs l).map .list
  | .ins _ _ => none
def toDs : List PV → Option (List PyData)
  | [] => some []
  | p :: r => match toD p, toDs r with
    | some d, some ds => some (d :: ds)
    | _, _ => none
end
mutual
theorem dp_of {C : Fx} {F : Hp} : ∀ {v : V} {p : PV} {d : PyData}, Rp C F v p → toD p = some d → Dp C.K F v d
  | _, _, _, .non, e => by cases e; exact .non
  | _, _, _, .bl b, e => by cases e; exact .bl b
  | _, _, _, .int i, e => by cases e; exact .int i
  | _, _, _, .str x, e => by cases e; exact .str x
  | _, _, d, .tup (l := l) h r, e => by
    have e : (toDs l).map PyData.tuple = some d := e
    cases h2 : toDs l with
    | none => rw [h2] at e; cases e
    | some ds => rw [h2] at e; cases e; exact .tup h (dps_of r h2)
  | _, _, d, .lst (l := l) h r, e => by
    have e : (toDs l).map PyData.list = some d := e
    cases h2 : toDs l with
    | none => rw [h2] at e; cases e
    | some ds => rw [h2] at e; cases e; exact .lst (.of h) (dps_of r h2)
  | _, _, d, .scr (l := l) h r, e => by
    have e : (toDs l).map PyData.list = some d := e
    cases h2 : toDs l with
    | none => rw [h2] at e; cases e
    | some ds => rw [h2] at e; cases e; exact .lst h (dps_of r h2)
  | _, _, _, .ins _ _, e => by cases e
theorem dps_of {C : Fx} {F : Hp} : ∀ {v : List V} {p : List PV} {d : List PyData}, Rps C F v p → toDs p = some d → DpAll C.K F v d
  | _, _, _, .nil, e => by cases e; exact .nil
  | _, p :: r, d, .cons h1 h2, e => by
    unfold toDs at e
    split at e
    · rename_i d1 ds e1 e2
      cases e
      exact .cons (dp_of h1 e1) (dps_of h2 e2)
    · cases e
end
mutual
theorem dp_mono {K : PySem.W.Frag} {F H : Hp} (sm : Same F H) : ∀ {v : V} {d : PyData}, Dp K F v d → Dp K H v d
  | _, _, .non => .non
  | _, _, .bl b => .bl b
  | _, _, .int i => .int i
  | _, _, .str x => .str x
  | _, _, .lst h r => .lst (sm.seq h) (dps_mono sm r)
  | _, _, .tup h r => .tup (sqT_mono sm h) (dps_mono sm r)
theorem dps_mono {K : PySem.W.Frag} {F H : Hp} (sm : Same F H) : ∀ {v : List V} {d : List PyData}, DpAll K F v d → DpAll K H v d
  | _, _, .nil => .nil
  | _, _, .cons h r => .cons (dp_mono sm h) (dps_mono sm r)
end
def pEqB (p q : PV) : Option Bool := match toD p, toD q with
  | some d, some e => if (SeqAt.shaped d && SeqAt.shaped e) = true then some (PyData.eqv d e) else none
  | _, _ => none
def pEq (p q : PV) : Option PV := (pEqB p q).map .bl
def pNe (p q : PV) : Option PV := (pEqB p q).map fun b => .bl (!b)
def pIs : PV → PV → Option PV
  | p, .non => some (.bl (match p with | .non => true | _ => false))
  | _, _ => none
def pIsNot : PV → PV → Option PV
  | p, .non => some (.bl (match p with | .non => false | _ => true))
  | _, _ => none
def pInB : PV → PV → Option Bool
  | p, .lst l => match toD p, toDs l with
    | some d, some ds => if (SeqAt.shaped d && SeqAt.shaped (.list ds)) = true then some (ds.any fun z => PyData.eqv z d) else none
    | _, _ => none
  | _, _ => none
def pIn (p q : PV) : Option PV := (pInB p q).map .bl
def pNotIn (p q : PV) : Option PV := (pInB p q).map fun b => .bl (!b)
section
variable {X : Cx} {C : Fx}
theorem eqB_at {F H : Hp} {p q : PV} {b : Bool} {x y : V} (sm : Same F H) (r1 : Rp C F x p) (r2 : Rp C F y q) (h : pEqB p q = some b) : ∃ d e, Dp C.K H x d ∧ Dp C.K H y e ∧ SeqAt.shaped d = true ∧ SeqAt.shaped e = true ∧ b = PyData.eqv d e := by
  unfold pEqB at h
  split at h
  · rename_i d e h1 h2
    split at h
    · rename_i hs
      rw [Bool.and_eq_true] at hs
      cases h
      exact ⟨d, e, dp_mono sm (dp_of r1 h1), dp_mono sm (dp_of r2 h2), hs.1, hs.2, rfl⟩
    · cases h
  · cases h
theorem d_eq {K : PySem.W.Frag} (hK : K = C.K) : OpD C (rEqD K) pEq := by
  intro F A H σ s x y p q z Q o r1 r2 e k
  unfold pEq at e
  cases h : pEqB p q with
  | none => rw [h] at e; cases e
  | some b =>
    rw [h] at e; cases e
    obtain ⟨d, e, h1, h2, h3, h4, rfl⟩ := eqB_at o.sub r1 r2 h
    rw [hK]
    exact ⟨d, e, h1, h2, h3, h4, k _ F A H o .refl (.bl _)⟩
theorem d_ne {K : PySem.W.Frag} (hK : K = C.K) : OpD C (rNeD K) pNe := by
  intro F A H σ s x y p q z Q o r1 r2 e k
  unfold pNe at e
  cases h : pEqB p q with
  | none => rw [h] at e; cases e
  | some b =>
    rw [h] at e; cases e
    obtain ⟨d, e, h1, h2, h3, h4, rfl⟩ := eqB_at o.sub r1 r2 h
    rw [hK]
    exact ⟨d, e, h1, h2, h3, h4, k _ F A H o .refl (.bl _)⟩
theorem d_is : OpD C (fun x y H Q => y = .non ∧ Q (.bl (decide (x = .non))) H) pIs := by
  intro F A H σ s x y p q z Q o r1 r2 e k
  cases r2 with
  | non =>
    refine ⟨rfl, ?_⟩
    cases r1 with
    | non => cases e; exact k _ F A H o .refl (.bl _)
    | _ => cases e; exact k _ F A H o .refl (.bl _)
  | _ => cases r1 <;> cases e
theorem d_isnot : OpD C (fun x y H Q => y = .non ∧ Q (.bl (!decide (x = .non))) H) pIsNot := by
  intro F A H σ s x y p q z Q o r1 r2 e k
  cases r2 with
  | non =>
    refine ⟨rfl, ?_⟩
    cases r1 with
    | non => cases e; exact k _ F A H o .refl (.bl _)
    | _ => cases e; exact k _ F A H o .refl (.bl _)
  | _ => cases r1 <;> cases e
theorem inB_at {F H : Hp} {p q : PV} {b : Bool} {x y : V} (sm : Same F H) (r1 : Rp C F x p) (r2 : Rp C F y q) (h : pInB p q = some b) : ∃ d ds, Dp C.K H x d ∧ Dp C.K H y (.list ds) ∧ SeqAt.shaped d = true ∧ SeqAt.shaped (.list ds) = true ∧ b = ds.any fun z => PyData.eqv z d := by
  cases r2 with
  | @lst a xs l h1 h2 =>
    have h : (match toD p, toDs l with
    | some d, some ds => if (SeqAt.shaped d && SeqAt.shaped (.list ds)) = true then some (ds.any fun z => PyData.eqv z d) else none
    | _, _ => none) = some b := by cases r1 <;> exact h
    split at h
    · rename_i d ds e1 e2
      split at h
      · rename_i hs
        rw [Bool.and_eq_true] at hs
        cases h
        exact ⟨d, ds, dp_mono sm (dp_of r1 e1), .lst (.of (sm _ _ h1)) (dps_mono sm (dps_of h2 e2)), hs.1, hs.2, rfl⟩
      · cases h
    · cases h
  | _ => cases r1 <;> cases h
theorem d_in {K : PySem.W.Frag} (hK : K = C.K) : OpD C (rInD K) pIn := by
  intro F A H σ s x y p q z Q o r1 r2 e k
  unfold pIn at e
  cases h : pInB p q with
  | none => rw [h] at e; cases e
  | some b =>
    rw [h] at e; cases e
    obtain ⟨d, ds, h1, h2, h3, h4, rfl⟩ := inB_at o.sub r1 r2 h
    rw [hK]
    exact ⟨d, ds, h1, h2, h3, h4, k _ F A H o .refl (.bl _)⟩
theorem d_notin {K : PySem.W.Frag} (hK : K = C.K) : OpD C (rNotInD K) pNotIn := by
  intro F A H σ s x y p q z Q o r1 r2 e k
  unfold pNotIn at e
  cases h : pInB p q with
  | none => rw [h] at e; cases e
  | some b =>
    rw [h] at e; cases e
    obtain ⟨d, ds, h1, h2, h3, h4, rfl⟩ := inB_at o.sub r1 r2 h
    rw [hK]
    exact ⟨d, ds, h1, h2, h3, h4, k _ F A H o .refl (.bl _)⟩
end
end PL

/-! PL9: subscripts, slices, objects that are changed, built-ins. -/
namespace PL
open PySem PySem.Spec PyProof.Rows L2

def getM (s : Stt) (i : Nat) : Option (MKey × MO) := match keyOf s i with
  | some k => (getK s k).map fun m => (k, m)
  | none => none
section
variable {C : Fx} {F H : Hp} {A : Nat → List Addr} {σ : L2.St} {s : Stt}
theorem mut_at (o : OkF C F A H σ s) {i : Nat} {k : MKey} {m : MO} (h : getM s i = some (k, m)) : getK s k = some m ∧ σ[i]? = some (some (.ref (adr σ C k))) ∧ MAt C F H (adr σ C k) (fpr A C k) m := by
  unfold getM at h
  cases e : keyOf s i with
  | none => rw [e] at h; cases h
  | some k' =>
    have h : (getK s k').map (fun m => (k', m)) = some (k, m) := by rw [e] at h; exact h
    cases e2 : getK s k' with
    | none => rw [e2] at h; cases h
    | some m' =>
      rw [e2] at h
      cases h
      refine ⟨e2, ?_, (key_at o e2).1⟩
      unfold keyOf at e
      split at e
      · cases e; exact (key_at o e2).2.2.1 i rfl
      · rename_i q hq
        cases e; exact (o.lent i q hq).1
      · cases e
/-- an object of the state is changed -/
theorem OkF.upd (o : OkF C F A H σ s) {k : MKey} {m m2 : MO} {H2 : Hp} (hk : getK s k = some m) (hH : ∀ b, b ∉ fpr A C k → H2 b = H b) (hN : ∀ b, b ∈ fpr A C k → H2 b ≠ none) (hM : MAt C F H2 (adr σ C k) (fpr A C k) m2) :
    OkF C F A H2 σ (setK s k m2) ∧ Step C F A H F A H2 := by
  obtain ⟨m0, hfr, hadr, hnb⟩ := key_at o hk
  have e1 : setAll s [k] [m2] = setK s k m2 := rfl
  have out : ∀ k', (∀ q, k' = MKey.inr q → q < C.nb) → k' ≠ k → ∀ b x, b ∈ fpr A C k' → H b = some x → H2 b = some x := fun k' hq ne b x hb hx => by
    rw [hH b (fun z => ne (key_dis o hq hnb hb z))]
    exact hx
  have inr_lt : ∀ (q : Nat) (m : MO), s.mu[q]? = some m → q < C.nb := fun q m e => by rw [← o.nb]; exact (List.getElem?_eq_some_iff.mp e).1
  have there : ∀ b, H b ≠ none → H2 b ≠ none := fun b hb => by
    by_cases hm : b ∈ fpr A C k
    · exact hN b hm
    · rw [hH b hm]; exact hb
  rw [← e1]
  refine ⟨⟨?_, fun b u e => ?_, fun i v e => ?_, fun i m e => ?_, ?_, fun i q e => ?_, fun q m e => ?_, fun i b hb => ?_, o.dis, o.freeB, o.disB⟩, ⟨fun _ _ h => h, fun _ h => .inl h, fun _ h => .inl h, fun b u e n1 n2 => ?_, there⟩⟩
  · rw [(setAll_lens [k] [m2] s).1]; exact o.len
  · rw [hH b (fun z => by rw [(hfr b z).1] at e; cases e)]
    exact o.sub b u e
  · rcases setAll_ro [k] [m2] s rfl i _ e with ⟨j, m, h1, h2, h3⟩ | ⟨h1, h2⟩
    · cases h3
    · exact o.val i v h1
  · rcases setAll_ro [k] [m2] s rfl i _ e with ⟨j, m', h1, h2, h3⟩ | ⟨h1, h2⟩
    · cases h3
      cases j with
      | succ j => simp at h1
      | zero =>
        simp at h1 h2
        subst h1 h2
        exact ⟨_, hadr i rfl, hM⟩
    · obtain ⟨p, h3, h4⟩ := o.own i m h1
      exact ⟨p, h3, h4.keep (fun _ _ h => h) (out (.inl i) (fun q z => by cases z) (fun z => h2 (by rw [z]; exact List.mem_cons_self)))⟩
  · rw [(setAll_lens [k] [m2] s).2]; exact o.nb
  · rcases setAll_ro [k] [m2] s rfl i _ e with ⟨j, m', h1, h2, h3⟩ | ⟨h1, h2⟩
    · cases h3
    · exact o.lent i q h1
  · rcases setAll_mu [k] [m2] s rfl q _ e with ⟨j, h1, h2⟩ | ⟨h1, h2⟩
    · cases j with
      | succ j => simp at h1
      | zero =>
        simp at h1 h2
        subst h1 h2
        exact hM
    · exact (o.bor q m h1).keep (fun _ _ h => h) (out (.inr q) (fun q' z => by cases z; exact inr_lt q m h1) (fun z => h2 (by rw [z]; exact List.mem_cons_self)))
  · obtain ⟨h1, h2⟩ := o.free i b hb
    exact ⟨h1, there b h2⟩
  · rw [hH b (fun z => ?_)]
    · exact e
    · cases k with
      | inl i => exact n1 ⟨i, z⟩
      | inr q => exact n2 ⟨q, hnb q rfl, z⟩
/-- a list of the state gets new items -/
theorem OkF.updL (o : OkF C F A H σ s) {k : MKey} {l l2 : List PV} {ys : List V} (hk : getK s k = some (.lst l)) (r : Rps C F ys l2) :
    OkF C F A (L2.upd H (adr σ C k) (.lst ys)) σ (setK s k (.lst l2)) ∧ Step C F A H F A (L2.upd H (adr σ C k) (.lst ys)) := by
  obtain ⟨⟨hf, xs, hx, hr⟩, _⟩ := key_at o hk
  refine o.upd hk (fun b hb => upd_ne (fun e => hb (by rw [hf, e]; exact List.mem_cons_self))) (fun b hb => ?_) ⟨hf, ys, upd_same, r⟩
  rw [hf, List.mem_singleton] at hb
  subst hb
  rw [upd_same]; simp
end

/-! ### subscripts -/
def pIx : PV → PV → Option PV
  | .lst l, .int i => atI l i
  | .tup l, .int i => atI l i
  | .scr l, .int i => atI l i
  | .str z, .int i => if z.length ≤ 16777216 then (atI z.cps.toList i).map fun c => .str ⟨#[c]⟩ else none
  | _, _ => none
theorem Rps.atI {C : Fx} {F : Hp} {xs : List V} {l : List PV} {i : Int} {p : PV} (r : Rps C F xs l) (h : atI l i = some p) : ∃ v, L2.atI xs i = some v ∧ Rp C F v p := by
  unfold L2.atI at h ⊢
  rw [r.length]
  cases e : ixN l.length i with
  | none => rw [e] at h; cases h
  | some j =>
    rw [e] at h
    obtain ⟨v, h1, h2⟩ := r.get h
    exact ⟨v, h1, h2⟩
section
variable {X : Cx} {C : Fx} {W : WX} {a b e : Expr} {pos : Pos} {fa fb fe : Stt → Res PV}
theorem d_ix {K : PySem.W.Frag} (hK : K = C.K) : OpD C (rIx K) pIx := by
  intro F A H σ s x y p q z Q o r1 r2 e k
  unfold pIx at e
  split at e
  · cases r2
    cases r1 with
    | @lst a xs l h1 h2 =>
      obtain ⟨v, h3, h4⟩ := h2.atI e
      exact .inl ⟨a, xs, _, v, rfl, rfl, .of (o.sub _ _ h1), h3, k _ F A H o .refl h4⟩
  · cases r2
    cases r1 with
    | @tup a xs l h1 h2 =>
      obtain ⟨v, h3, h4⟩ := h2.atI e
      exact .inr (.inl ⟨a, xs, _, v, rfl, rfl, by rw [hK]; exact sqT_mono o.sub h1, h3, k _ F A H o .refl h4⟩)
  · cases r2
    cases r1 with
    | @scr a xs l h1 h2 =>
      obtain ⟨v, h3, h4⟩ := h2.atI e
      exact .inl ⟨a, xs, _, v, rfl, rfl, by rw [hK]; exact o.sub.seq h1, h3, k _ F A H o .refl h4⟩
  · split at e
    · rename_i hl
      cases r2
      cases r1
      cases h : atI (α := Nat) _ _ with
      | none => rw [h] at e; cases e
      | some c =>
        rw [h] at e; cases e
        exact .inr (.inr ⟨_, _, c, rfl, rfl, line_le hl, h, k _ F A H o .refl (.str _)⟩)
    · cases e
  · cases e
theorem dv_ix (hK : X.K = C.K) (ha : DV X C W a fa) (hb : DV X C W b fb) (hs : PlainIx b) : DV X C W (.Subscript a b pos) (eBin pIx fa fb) := by
  obtain ⟨ta, pa, qa⟩ := ha.pr
  obtain ⟨tb, pb, qb⟩ := hb.pr
  exact ⟨_, pe_ix ix_seq pa pb hs, opPost (d_ix hK) qa qb⟩
/-- an item of an object that is changed -/
def eIxM (i : Nat) (fb : Stt → Res PV) : Stt → Res PV := fun s => (getM s i).elim .stuck fun _ => (fb s).bind fun q s1 => match getM s1 i with
  | some (_, .lst l) => Res.opt s1 (pIx (.lst l) q)
  | _ => .stuck
theorem dv_ixM (i : Nat) {x : Str} {p : Pos} (hb : DV X C W b fb) (hs : PlainIx b) (hN : X.N[i]? = some x := by rfl) (hv : Vis X.env.scope x := by first | exact Or.inl rfl | exact Or.inr (Or.inl rfl) | exact Or.inr (Or.inr rfl)) (hd : (x == ("__debug__" : Str)) = false := by decide)
    (hcd : (x == ("__classdict__" : Str)) = false := by decide) : DV X C W (.Subscript (.Name x p) b pos) (eIxM i fb) := by
  obtain ⟨tb, pb, qb⟩ := hb.pr
  refine ⟨_, pe_ix ix_list (pe_var hN hv hd hcd) pb hs, fun F A H σ s Q o pp => ?_⟩
  unfold eIxM at pp
  cases e0 : getM s i with
  | none => rw [e0] at pp; exact pp.elim
  | some km =>
    rw [e0] at pp
    obtain ⟨_, h1, _⟩ := mut_at o (k := km.1) (m := km.2) e0
    refine ⟨_, h1, ?_⟩
    have pp : Post C W (RV C) F A H σ ((fb s).bind fun q s1 => match getM s1 i with
      | some (_, .lst l) => Res.opt s1 (pIx (.lst l) q)
      | _ => .stuck) Q := pp
    refine qb F A H σ s _ o (pp.seq fun q s1 v F1 A1 H1 _ o1 st1 r1 p1 => ?_)
    split at p1
    · rename_i k l e1
      obtain ⟨g1, g2, g3⟩ := mut_at o1 e1
      obtain ⟨z, e2, kk⟩ := Post.opt p1
      obtain ⟨_, xs, hx, hr⟩ := g3
      rw [h1] at g2
      have ea : adr σ C km.1 = adr σ C k := V.ref.inj (Option.some.inj (Option.some.inj g2))
      have e2' : pIx (.lst l) q = some z := e2
      unfold pIx at e2'
      split at e2'
      · rename_i l' i' ee _
        cases ee
        cases r1
        obtain ⟨u, h3, h4⟩ := hr.atI e2'
        exact ⟨_, xs, _, u, rfl, rfl, by rw [ea]; exact .of hx, h3, kk u F1 A1 H1 o1 .refl h4⟩
      · rename_i ee _; cases ee
      · rename_i ee _; cases ee
      · rename_i ee _; cases ee
      · cases e2'
    · exact p1.elim
/-- x[i] = v, x an object that is changed -/
def gSetIx (i : Nat) (fv fi : Stt → Res PV) : Stt → Fl := fun s => (fv s).fl fun p s1 => (getM s1 i).elim .stuck fun _ => (fi s1).fl fun q s2 => match q, getM s2 i with
  | .int j, some (k, .lst l) => match ixN l.length j with
    | some n => .nx (setK s2 k (.lst (l.set n p)))
    | none => .stuck
  | _, _ => .stuck
theorem ds_setIx (i : Nat) {x : Str} {p p2 : Pos} {v : Expr} {fv : Stt → Res PV} (hv : DV X C W v fv) (hb : DV X C W b fb) (hN : X.N[i]? = some x := by rfl) (hvis : Vis X.env.scope x := by first | exact Or.inl rfl | exact Or.inr (Or.inl rfl) | exact Or.inr (Or.inr rfl)) (hd : (x == ("__debug__" : Str)) = false := by decide)
    (hcd : (x == ("__classdict__" : Str)) = false := by decide) (hs : swapsWithSole [.Subscript (.Name x p) b p2] v pos.line X.env = pure false := by rfl) (hw : swappedStores [.Subscript (.Name x p) b p2] v X.env = pure none := by rfl)
    (h1 : (assignEach [.Subscript (.Name x p) b p2] X.env).map (·.2) = [assign (.Subscript (.Name x p) b p2) X.env] := by rfl) (hsub : ∀ ti, PE X b ti → PG X (.Subscript (.Name x p) b p2) (gSub (tVar i) ti rSetL) := by intro ti h; exact pg_sub (pv _) h set_list) : DS X C W (.Assign [.Subscript (.Name x p) b p2] v pos) (gSetIx i fv fb) := by
  obtain ⟨tv, pv, qv⟩ := hv.pr
  obtain ⟨tb, pb, qb⟩ := hb.pr
  refine ⟨_, ps_asg pv (hsub tb pb) hs hw h1, fun F A H σ s D o pp => ?_⟩
  refine qv F A H σ s _ o (PostS.seq pp fun pv s1 xv F1 A1 H1 _ o1 st1 r1 p1 => ?_)
  cases e0 : getM s1 i with
  | none => rw [e0] at p1; exact p1.elim
  | some km =>
    rw [e0] at p1
    obtain ⟨_, g0, _⟩ := mut_at o1 (k := km.1) (m := km.2) e0
    refine ⟨_, g0, ?_⟩
    refine qb F1 A1 H1 σ s1 _ o1 (PostS.seq p1 fun q s2 xq F2 A2 H2 _ o2 st2 r2 p2 => ?_)
    cases q with
    | int j =>
      cases e1 : getM s2 i with
      | none => simp only [e1] at p2; exact p2.elim
      | some km2 =>
        obtain ⟨k, m⟩ := km2
        simp only [e1] at p2
        cases m with
        | lst l =>
          simp only at p2
          cases e2 : ixN l.length j with
          | none => rw [e2] at p2; exact p2.elim
          | some n =>
            rw [e2] at p2
            obtain ⟨g1, g2, g3⟩ := mut_at o2 e1
            obtain ⟨_, xs, hx, hr⟩ := g3
            rw [g0] at g2
            have ea : adr σ C km.1 = adr σ C k := V.ref.inj (Option.some.inj (Option.some.inj g2))
            cases r2
            refine ⟨_, xs, j, n, rfl, rfl, by rw [ea]; exact hx, by rw [hr.length]; exact e2, ?_⟩
            rw [ea]
            obtain ⟨o3, st3⟩ := o2.updL g1 (Rps.set (r1.mono st2.s1) n hr)
            exact p2 _ _ _ _ o3 st3
        | _ => exact p2.elim
    | _ => exact p2.elim
/-! ### slices -/
def pCut (l : List PV) (lo hi : Option Int) : List PV := (l.drop (HT.sIx l.length 0 lo)).take (HT.sIx l.length l.length hi - HT.sIx l.length 0 lo)
theorem Rps.cut {F : Hp} {xs : List V} {l : List PV} (r : Rps C F xs l) (lo hi : Option Int) : Rps C F (cutV xs lo hi) (pCut l lo hi) := by
  unfold cutV pCut
  rw [r.length]
  exact (r.drop _).take _
structure DP (X : Cx) (C : Fx) (W : WX) (e : Option Expr) (f : Stt → Res (Option Int)) : Prop where
  pr : ∃ te, PO X e te ∧ ∀ F A H σ s Q, OkF C F A H σ s → Post C W (fun _ _ (a b : Option Int) => a = b) F A H σ (f s) Q → te σ H Q
def pNo : Stt → Res (Option Int) := fun s => .ok none s
def pSo (f : Stt → Res PV) : Stt → Res (Option Int) := fun s => (f s).bind fun p s1 => match p with
  | .int i => .ok (some i) s1
  | _ => .stuck
theorem dp_none : DP X C W none pNo := ⟨_, po_none, fun F A H σ s Q o p => Post.now o p rfl⟩
theorem dp_some (h : DV X C W e fe) : DP X C W (some e) (pSo fe) := by
  obtain ⟨te, pe, qe⟩ := h.pr
  refine ⟨_, po_some pe, fun F A H σ s Q o p => ?_⟩
  refine qe F A H σ s _ o (p.seq fun q s1 v F1 A1 H1 _ o1 st1 r1 p1 => ?_)
  cases r1 with
  | int i => exact ⟨i, rfl, Post.now o1 p1 rfl⟩
  | _ => exact p1.elim
def oSlL (fa : Stt → Res PV) (fl fh : Stt → Res (Option Int)) : Stt → Res MO := fun s => (fa s).bind fun p s1 => (fl s1).bind fun lo s2 => (fh s2).bind fun hi s3 => match p with
  | .lst l => .ok (.lst (pCut l lo hi)) s3
  | .scr l => .ok (.lst (pCut l lo hi)) s3
  | _ => .stuck
theorem do_slL {lo hi : Option Expr} {fl fh : Stt → Res (Option Int)} {p2 : Pos} (hK : X.K = C.K) (ha : DV X C W a fa) (hl : DP X C W lo fl) (hh : DP X C W hi fh) : DO X C W (.Subscript a (.Slice lo hi none p2) pos) (oSlL fa fl fh) := by
  obtain ⟨ta, pa, qa⟩ := ha.pr
  obtain ⟨tl, pl, ql⟩ := hl.pr
  obtain ⟨th, ph, qh⟩ := hh.pr
  refine ⟨_, pe_slice sl_list pa pl ph, fun F A H σ s Q o p => ?_⟩
  refine qa F A H σ s _ o (PostO.seq p fun q1 s1 v1 F1 A1 H1 _ o1 st1 r1 p1 => ?_)
  refine ql F1 A1 H1 σ s1 _ o1 (PostO.seq p1 fun l2 s2 v2 F2 A2 H2 _ o2 st2 r2 p2 => ?_)
  refine qh F2 A2 H2 σ s2 _ o2 (PostO.seq p2 fun l3 s3 v3 F3 A3 H3 _ o3 st3 r3 p3 => ?_)
  have r2 : v2 = l2 := r2
  have r3 : v3 = l3 := r3
  subst r2 r3
  have rm := r1.mono (st2.s1.trans st3.s1)
  cases rm with
  | @lst b xs l h1 h2 =>
    refine ⟨b, xs, rfl, .of (o3.sub _ _ h1), fun q hq => ?_⟩
    obtain ⟨o4, st4, f4⟩ := o3.fresh (u := .lst (cutV xs v2 v3)) (m := .lst (pCut l v2 v3)) hq ⟨rfl, _, upd_same, h2.cut v2 v3⟩
    exact p3 q _ _ _ o4 st4 f4
  | @scr b xs l h1 h2 =>
    refine ⟨b, xs, rfl, by rw [hK]; exact o3.sub.seq h1, fun q hq => ?_⟩
    obtain ⟨o4, st4, f4⟩ := o3.fresh (u := .lst (cutV xs v2 v3)) (m := .lst (pCut l v2 v3)) hq ⟨rfl, _, upd_same, h2.cut v2 v3⟩
    exact p3 q _ _ _ o4 st4 f4
  | _ => exact p3.elim
def eSlT (fa : Stt → Res PV) (fl fh : Stt → Res (Option Int)) : Stt → Res PV := fun s => (fa s).bind fun p s1 => (fl s1).bind fun lo s2 => (fh s2).bind fun hi s3 => match p with
  | .tup l => .ok (.tup (pCut l lo hi)) s3
  | _ => .stuck
theorem dv_slT {lo hi : Option Expr} {fl fh : Stt → Res (Option Int)} {p2 : Pos} (hK : X.K = C.K) (ha : DV X C W a fa) (hl : DP X C W lo fl) (hh : DP X C W hi fh) : DV X C W (.Subscript a (.Slice lo hi none p2) pos) (eSlT fa fl fh) := by
  obtain ⟨ta, pa, qa⟩ := ha.pr
  obtain ⟨tl, pl, ql⟩ := hl.pr
  obtain ⟨th, ph, qh⟩ := hh.pr
  refine ⟨_, pe_slice sl_tupA pa pl ph, fun F A H σ s Q o p => ?_⟩
  refine qa F A H σ s _ o (p.seq fun q1 s1 v1 F1 A1 H1 _ o1 st1 r1 p1 => ?_)
  refine ql F1 A1 H1 σ s1 _ o1 (p1.seq fun l2 s2 v2 F2 A2 H2 _ o2 st2 r2 p2 => ?_)
  refine qh F2 A2 H2 σ s2 _ o2 (p2.seq fun l3 s3 v3 F3 A3 H3 _ o3 st3 r3 p3 => ?_)
  have r2 : v2 = l2 := r2
  have r3 : v3 = l3 := r3
  subst r2 r3
  have rm := r1.mono (st2.s1.trans st3.s1)
  cases rm with
  | @tup b xs l h1 h2 =>
    refine ⟨b, xs, rfl, by rw [hK]; exact sqT_mono o3.sub h1, fun hw => ?_, fun _ q hq => ?_⟩
    · have e : cutV xs v2 v3 = xs := by
        unfold cutV
        rw [hw.1, hw.2]
        simp
      have rc := h2.cut v2 v3
      rw [e] at rc
      exact p3 _ F3 A3 H3 o3 .refl (.tup h1 rc)
    · obtain ⟨o4, st4⟩ := o3.alloc (o := .tup (cutV xs v2 v3)) hq
      exact p3 _ _ _ _ o4 st4 (.tup (.of upd_same) ((h2.cut v2 v3).mono st4.s1))
  | _ => exact p3.elim
end

/-! ### built-ins -/
def pAbs : List PV → Option PV
  | [.int i] => some (.int (if i < 0 then -i else i))
  | _ => none
def pMax2 : List PV → Option PV
  | [.int i, .int j] => some (.int (if j > i then j else i))
  | _ => none
def pMin2 : List PV → Option PV
  | [.int i, .int j] => some (.int (if j < i then j else i))
  | _ => none
def pLen : List PV → Option PV
  | [.lst l] => some (.int l.length)
  | [.tup l] => some (.int l.length)
  | [.scr l] => some (.int l.length)
  | [.str z] => if z.length ≤ 16777216 then some (.int z.length) else none
  | _ => none
def pInt1 : List PV → Option PV
  | [.int i] => some (.int i)
  | [.bl b] => some (.int (if b then 1 else 0))
  | _ => none
def allInt : List PV → Option (List Int)
  | [] => some []
  | .int i :: r => (allInt r).map (i :: ·)
  | _ :: _ => none
def allBl : List PV → Option (List Bool)
  | [] => some []
  | .bl i :: r => (allBl r).map (i :: ·)
  | _ :: _ => none
theorem allInt_eq : ∀ {l : List PV} {ns : List Int}, allInt l = some ns → l = ns.map PV.int
  | [], ns, h => by cases h; rfl
  | .int i :: r, ns, h => by
    unfold allInt at h
    cases e : allInt r with
    | none => rw [e] at h; cases h
    | some ms => rw [e] at h; cases h; rw [allInt_eq e]; rfl
  | .non :: _, _, h => by cases h
  | .bl _ :: _, _, h => by cases h
  | .str _ :: _, _, h => by cases h
  | .tup _ :: _, _, h => by cases h
  | .lst _ :: _, _, h => by cases h
  | .scr _ :: _, _, h => by cases h
  | .ins _ _ :: _, _, h => by cases h
theorem allBl_eq : ∀ {l : List PV} {ns : List Bool}, allBl l = some ns → l = ns.map PV.bl
  | [], ns, h => by cases h; rfl
  | .bl i :: r, ns, h => by
    unfold allBl at h
    cases e : allBl r with
    | none => rw [e] at h; cases h
    | some ms => rw [e] at h; cases h; rw [allBl_eq e]; rfl
  | .non :: _, _, h => by cases h
  | .int _ :: _, _, h => by cases h
  | .str _ :: _, _, h => by cases h
  | .tup _ :: _, _, h => by cases h
  | .lst _ :: _, _, h => by cases h
  | .scr _ :: _, _, h => by cases h
  | .ins _ _ :: _, _, h => by cases h
theorem Rps.bls {C : Fx} {F : Hp} : ∀ {vs : List V} {ns : List Bool}, Rps C F vs (ns.map PV.bl) → vs = ns.map V.bl
  | [], [], _ => rfl
  | _ :: _, n :: ns, .cons (.bl _) r => by rw [List.map_cons, Rps.bls (ns := ns) r]
def pSum : List PV → Option PV
  | [.lst l] => (allInt l).map fun ns => .int ns.sum
  | _ => none
def pAny : List PV → Option PV
  | [.lst l] => (allBl l).map fun ns => .bl (ns.any id)
  | _ => none
def pAll : List PV → Option PV
  | [.lst l] => (allBl l).map fun ns => .bl (ns.all id)
  | _ => none
def maxI : List Int → Int
  | [] => 0
  | [x] => x
  | x :: r => max x (maxI r)
def minI : List Int → Int
  | [] => 0
  | [x] => x
  | x :: r => min x (minI r)
theorem maxI_mem : ∀ {l : List Int}, l ≠ [] → maxI l ∈ l ∧ ∀ y ∈ l, y ≤ maxI l
  | [], h => absurd rfl h
  | [x], _ => ⟨List.mem_cons_self, fun y hy => by rw [List.mem_singleton] at hy; subst hy; exact Int.le_refl _⟩
  | x :: y :: r, _ => by
    obtain ⟨h1, h2⟩ := maxI_mem (l := y :: r) (by simp)
    have e : maxI (x :: y :: r) = max x (maxI (y :: r)) := rfl
    rw [e]
    refine ⟨?_, fun z hz => ?_⟩
    · by_cases h : x ≤ maxI (y :: r)
      · rw [Int.max_eq_right h]; exact List.mem_cons_of_mem _ h1
      · rw [Int.max_eq_left (by omega)]; exact List.mem_cons_self
    · rcases List.mem_cons.mp hz with q | q
      · subst q; exact Int.le_max_left _ _
      · exact Int.le_trans (h2 z q) (Int.le_max_right _ _)
theorem minI_mem : ∀ {l : List Int}, l ≠ [] → minI l ∈ l ∧ ∀ y ∈ l, minI l ≤ y
  | [], h => absurd rfl h
  | [x], _ => ⟨List.mem_cons_self, fun y hy => by rw [List.mem_singleton] at hy; subst hy; exact Int.le_refl _⟩
  | x :: y :: r, _ => by
    obtain ⟨h1, h2⟩ := minI_mem (l := y :: r) (by simp)
    have e : minI (x :: y :: r) = min x (minI (y :: r)) := rfl
    rw [e]
    refine ⟨?_, fun z hz => ?_⟩
    · by_cases h : x ≤ minI (y :: r)
      · rw [Int.min_eq_left h]; exact List.mem_cons_self
      · rw [Int.min_eq_right (by omega)]; exact List.mem_cons_of_mem _ h1
    · rcases List.mem_cons.mp hz with q | q
      · subst q; exact Int.min_le_left _ _
      · exact Int.le_trans (Int.min_le_right _ _) (h2 z q)
def pMax1 : List PV → Option PV
  | [.lst l] => match allInt l with
    | some (x :: r) => some (.int (maxI (x :: r)))
    | _ => none
  | _ => none
def pMin1 : List PV → Option PV
  | [.lst l] => match allInt l with
    | some (x :: r) => some (.int (minI (x :: r)))
    | _ => none
  | _ => none
section
variable {X : Cx} {C : Fx}
theorem rps1 {F : Hp} {x : List V} {p : PV} (r : Rps C F x [p]) : ∃ v, x = [v] ∧ Rp C F v p := by
  cases r with
  | cons h t => cases t; exact ⟨_, rfl, h⟩
theorem rps2 {F : Hp} {x : List V} {p q : PV} (r : Rps C F x [p, q]) : ∃ v u, x = [v, u] ∧ Rp C F v p ∧ Rp C F u q := by
  cases r with
  | cons h t =>
    obtain ⟨u, rfl, hu⟩ := rps1 t
    exact ⟨_, u, rfl, h, hu⟩
theorem c_abs : CallD C (fun xs H Q => ∃ i, xs = [.int i] ∧ Q (.int (if i < 0 then -i else i)) H) pAbs := by
  intro F A H σ s x p z Q o r e k
  unfold pAbs at e
  split at e
  · cases e
    obtain ⟨v, rfl, h⟩ := rps1 r
    cases h
    exact ⟨_, rfl, k _ F A H o .refl (.int _)⟩
  · cases e
theorem c_max2 : CallD C (fun xs H Q => ∃ i j, xs = [.int i, .int j] ∧ Q (.int (if j > i then j else i)) H) pMax2 := by
  intro F A H σ s x p z Q o r e k
  unfold pMax2 at e
  split at e
  · cases e
    obtain ⟨v, u, rfl, h, h'⟩ := rps2 r
    cases h; cases h'
    exact ⟨_, _, rfl, k _ F A H o .refl (.int _)⟩
  · cases e
theorem c_min2 : CallD C (fun xs H Q => ∃ i j, xs = [.int i, .int j] ∧ Q (.int (if j < i then j else i)) H) pMin2 := by
  intro F A H σ s x p z Q o r e k
  unfold pMin2 at e
  split at e
  · cases e
    obtain ⟨v, u, rfl, h, h'⟩ := rps2 r
    cases h; cases h'
    exact ⟨_, _, rfl, k _ F A H o .refl (.int _)⟩
  · cases e
theorem c_int1 : CallD C (fun xs H Q => (∃ i, xs = [.int i] ∧ Q (.int i) H) ∨ ∃ k, xs = [.bl k] ∧ Q (.int (if k then 1 else 0)) H) pInt1 := by
  intro F A H σ s x p z Q o r e k
  unfold pInt1 at e
  split at e
  · cases e
    obtain ⟨v, rfl, h⟩ := rps1 r
    cases h
    exact .inl ⟨_, rfl, k _ F A H o .refl (.int _)⟩
  · cases e
    obtain ⟨v, rfl, h⟩ := rps1 r
    cases h
    exact .inr ⟨_, rfl, k _ F A H o .refl (.int _)⟩
  · cases e
theorem c_len {K : PySem.W.Frag} (hK : K = C.K) : CallD C (fun xs H Q => ∃ x n, xs = [x] ∧ LenV K x H n ∧ Q (.int n) H) pLen := by
  intro F A H σ s x p z Q o r e k
  unfold pLen at e
  split at e
  · cases e
    obtain ⟨v, rfl, h⟩ := rps1 r
    cases h with
    | @lst a xs l h1 h2 => exact ⟨_, _, rfl, .inl ⟨xs, .of (o.sub _ _ h1), rfl⟩, by rw [h2.length]; exact k _ F A H o .refl (.int _)⟩
  · cases e
    obtain ⟨v, rfl, h⟩ := rps1 r
    cases h with
    | @tup a xs l h1 h2 => exact ⟨_, _, rfl, .inr ⟨xs, by rw [hK]; exact sqT_mono o.sub h1, rfl⟩, by rw [h2.length]; exact k _ F A H o .refl (.int _)⟩
  · cases e
    obtain ⟨v, rfl, h⟩ := rps1 r
    cases h with
    | @scr a xs l h1 h2 => exact ⟨_, _, rfl, .inl ⟨xs, by rw [hK]; exact o.sub.seq h1, rfl⟩, by rw [h2.length]; exact k _ F A H o .refl (.int _)⟩
  · split at e
    · rename_i hl
      cases e
      obtain ⟨v, rfl, h⟩ := rps1 r
      cases h
      exact ⟨_, _, rfl, ⟨line_le hl, rfl⟩, k _ F A H o .refl (.int _)⟩
    · cases e
  · cases e
theorem lst_at {K : PySem.W.Frag} {F H : Hp} {x : List V} {l : List PV} (sm : Same F H) (hK : K = C.K) (r : Rps C F x [.lst l]) : ∃ a xs, x = [.ref a] ∧ SqL K H a xs ∧ Rps C F xs l := by
  obtain ⟨v, rfl, h⟩ := rps1 r
  cases h with
  | @lst a xs l h1 h2 => exact ⟨a, xs, rfl, .of (sm _ _ h1), h2⟩
theorem c_sum {K : PySem.W.Frag} (hK : K = C.K) : CallD C (rSum K) pSum := by
  intro F A H σ s x p z Q o r e k
  unfold pSum at e
  split at e
  · rename_i l
    cases h : allInt l with
    | none => rw [h] at e; cases e
    | some ns =>
      rw [h] at e; cases e
      obtain ⟨a, xs, rfl, h1, h2⟩ := lst_at o.sub hK r
      rw [allInt_eq h] at h2
      have := h2.ints
      subst this
      exact ⟨a, ns, rfl, h1, k _ F A H o .refl (.int _)⟩
  · cases e
theorem c_any {K : PySem.W.Frag} (hK : K = C.K) : CallD C (rAny K) pAny := by
  intro F A H σ s x p z Q o r e k
  unfold pAny at e
  split at e
  · rename_i l
    cases h : allBl l with
    | none => rw [h] at e; cases e
    | some ns =>
      rw [h] at e; cases e
      obtain ⟨a, xs, rfl, h1, h2⟩ := lst_at o.sub hK r
      rw [allBl_eq h] at h2
      have := h2.bls
      subst this
      exact ⟨a, ns, rfl, h1, k _ F A H o .refl (.bl _)⟩
  · cases e
theorem c_all {K : PySem.W.Frag} (hK : K = C.K) : CallD C (rAll K) pAll := by
  intro F A H σ s x p z Q o r e k
  unfold pAll at e
  split at e
  · rename_i l
    cases h : allBl l with
    | none => rw [h] at e; cases e
    | some ns =>
      rw [h] at e; cases e
      obtain ⟨a, xs, rfl, h1, h2⟩ := lst_at o.sub hK r
      rw [allBl_eq h] at h2
      have := h2.bls
      subst this
      exact ⟨a, ns, rfl, h1, k _ F A H o .refl (.bl _)⟩
  · cases e
theorem c_max1 {K : PySem.W.Frag} (hK : K = C.K) : CallD C (rMax K) pMax1 := by
  intro F A H σ s x p z Q o r e k
  unfold pMax1 at e
  split at e
  · rename_i l
    split at e
    · rename_i y t h
      cases e
      obtain ⟨a, xs, rfl, h1, h2⟩ := lst_at o.sub hK r
      rw [allInt_eq h] at h2
      have := h2.ints
      subst this
      refine ⟨a, y :: t, rfl, h1, by simp, fun m hm hy => ?_⟩
      obtain ⟨q1, q2⟩ := maxI_mem (l := y :: t) (by simp)
      have : m = maxI (y :: t) := Int.le_antisymm (q2 m hm) (hy _ q1)
      rw [this]
      exact k _ F A H o .refl (.int _)
    · cases e
  · cases e
theorem c_min1 {K : PySem.W.Frag} (hK : K = C.K) : CallD C (rMin K) pMin1 := by
  intro F A H σ s x p z Q o r e k
  unfold pMin1 at e
  split at e
  · rename_i l
    split at e
    · rename_i y t h
      cases e
      obtain ⟨a, xs, rfl, h1, h2⟩ := lst_at o.sub hK r
      rw [allInt_eq h] at h2
      have := h2.ints
      subst this
      refine ⟨a, y :: t, rfl, h1, by simp, fun m hm hy => ?_⟩
      obtain ⟨q1, q2⟩ := minI_mem (l := y :: t) (by simp)
      have : m = minI (y :: t) := Int.le_antisymm (hy _ q1) (q2 m hm)
      rw [this]
      exact k _ F A H o .refl (.int _)
    · cases e
  · cases e
end
end PL

/-! PL10: more stores, repr, calls with keywords, more walks. -/
namespace PL
open PySem PySem.Spec PyProof.Rows L2

section
variable {X : Cx} {C : Fx} {W : WX} {a b e tg : Expr} {es : List Expr} {pos : Pos} {fa : Stt → Res (List PV)} {fe : Stt → Res PV}
/-- a, b = x, y -/
def gPar (i j : Nat) (fa : Stt → Res (List PV)) : Stt → Fl := fun s => (fa s).fl fun l s1 => match l with
  | [p, q] => .nx (setV j q (setV i p s1))
  | _ => .stuck
def gPar3 (i j l : Nat) (fa : Stt → Res (List PV)) : Stt → Fl := fun s => (fa s).fl fun l' s1 => match l' with
  | [p, q, r] => .nx (setV l r (setV j q (setV i p s1)))
  | _ => .stuck
theorem ds_par {i j : Nat} {x y : Str} {px py pt : Pos} {kt k2 pt2} (hc : X.calm = true) (hN : X.N.Nodup) (hi : X.N[i]? = some x) (hj : X.N[j]? = some y) (hij : i ≠ j)
    (hx : X.env.scope.names.lookup x = some .local) (hy : X.env.scope.names.lookup y = some .local) (ha : DA X C W [a, b] fa)
    (hw : swappedStores [.Tuple [.Name x px, .Name y py] kt pt] (.Tuple [a, b] k2 pt2) X.env = pure (some [x, y]))
    (hs : swapsWithSole [.Tuple [.Name x px, .Name y py] kt pt] (.Tuple [a, b] k2 pt2) pos.line X.env = pure false := by rfl) :
    DS X C W (.Assign [.Tuple [.Name x px, .Name y py] kt pt] (.Tuple [a, b] k2 pt2) pos) (gPar i j fa) := by
  obtain ⟨ta, pa, qa⟩ := ha.pr
  refine ⟨_, ps_par hc hN hi hj hij hx hy pa hw hs, fun F A H σ s D o p => ?_⟩
  refine qa F A H σ s _ o (PostS.seq p fun l s1 vs F1 A1 H1 _ o1 st1 r1 p1 => ?_)
  cases r1 with
  | nil => exact p1.elim
  | cons r r' =>
    cases r' with
    | nil => exact p1.elim
    | cons q q' =>
      cases q' with
      | cons _ _ => exact p1.elim
      | nil =>
        refine ⟨_, _, rfl, ?_⟩
        obtain ⟨o2, st2⟩ := o1.setV (i := i) r
        obtain ⟨o3, st3⟩ := o2.setV (i := j) q
        exact p1 _ _ _ _ o3 (st2.trans st3)
theorem ds_par3 {c : Expr} {i j l : Nat} {x y z : Str} {px py pz pt : Pos} {kt k2 pt2} (hc : X.calm = true) (hN : X.N.Nodup) (hi : X.N[i]? = some x) (hj : X.N[j]? = some y) (hl : X.N[l]? = some z) (hij : i ≠ j) (hil : i ≠ l) (hjl : j ≠ l)
    (hx : X.env.scope.names.lookup x = some .local) (hy : X.env.scope.names.lookup y = some .local) (hz : X.env.scope.names.lookup z = some .local) (ha : DA X C W [a, b, c] fa)
    (hw : swappedStores [.Tuple [.Name x px, .Name y py, .Name z pz] kt pt] (.Tuple [a, b, c] k2 pt2) X.env = pure (some [x, y, z]))
    (hs : swapsWithSole [.Tuple [.Name x px, .Name y py, .Name z pz] kt pt] (.Tuple [a, b, c] k2 pt2) pos.line X.env = pure false := by rfl) :
    DS X C W (.Assign [.Tuple [.Name x px, .Name y py, .Name z pz] kt pt] (.Tuple [a, b, c] k2 pt2) pos) (gPar3 i j l fa) := by
  obtain ⟨ta, pa, qa⟩ := ha.pr
  refine ⟨_, ps_par3 hc hN hi hj hl hij hil hjl hx hy hz pa hw hs, fun F A H σ s D o p => ?_⟩
  refine qa F A H σ s _ o (PostS.seq p fun l s1 vs F1 A1 H1 _ o1 st1 r1 p1 => ?_)
  cases r1 with
  | nil => exact p1.elim
  | cons r r' =>
    cases r' with
    | nil => exact p1.elim
    | cons q q' =>
      cases q' with
      | nil => exact p1.elim
      | cons w w' =>
        cases w' with
        | cons _ _ => exact p1.elim
        | nil =>
          refine ⟨_, _, _, rfl, ?_⟩
          obtain ⟨o2, st2⟩ := o1.setV (i := i) r
          obtain ⟨o3, st3⟩ := o2.setV (i := j) q
          obtain ⟨o4, st4⟩ := o3.setV w
          exact p1 _ _ _ _ o4 ((st2.trans st3).trans st4)
/-- a list unpacked into names -/
def aLst (n : Nat) (b : List PV → Stt → Option Stt) : PV → Stt → Option Stt
  | .lst l, s => if l.length = n then b l s else none
  | _, _ => none
theorem dg_lst {vs : Nat → Bool} {k n : Nat} {b : List PV → Stt → Option Stt} (hK : X.K = C.K) (hc : X.calm = true) (h : DGs X C vs es b) (hn : (assignEach es X.env).length = n := by rfl) (hst : (assignEach es X.env).findIdx? (·.1) = none := by rfl) : DG X C vs (.Tuple es k pos) (aLst n b) := by
  obtain ⟨t, p, q⟩ := h.pr
  refine ⟨_, pg_lst (n := n) hc p hn hst, fun F A H σ s x v s' Q o r e kk => ?_⟩
  cases r with
  | @lst a xs l hT hR =>
    have e : (if l.length = n then b l s else none) = some s' := e
    by_cases hl : l.length = n
    · rw [if_pos hl] at e
      exact ⟨a, xs, rfl, .of (o.sub _ _ hT), by rw [hR.length]; exact hl, q F A H σ s xs l s' Q o hR e kk⟩
    · rw [if_neg hl] at e; cases e
  | _ => cases e
/-- x += e, x a local name -/
def gAug (i : Nat) (f : PV → PV → Option PV) (fe : Stt → Res PV) : Stt → Fl := fun s => match s.ro[i]? with
  | some (some (.val p)) => (fe s).fl fun q s1 => match f p q with
    | some z => .nx (setV i z s1)
    | none => .stuck
  | _ => .stuck
theorem ds_aug {i : Nat} {x : Str} {op : Operator} {ti : TIp} {f : PV → PV → Option PV} {pos' : Pos} (hN : X.N.Nodup) (hi : X.N[i]? = some x) (hx : Loc X.env.scope x) (he : DV X C W e fe) (ho : PIp X op ti)
    (hd : ∀ F A H σ s x y p q z (Q : VK), OkF C F A H σ s → Rp C F x p → Rp C F y q → f p q = some z → (∀ v F' A' H', OkF C F' A' H' σ s → Step C F A H F' A' H' → Rp C F' v z → Q v H') → ti x y H Q)
    (hf : X.fn x = true ∨ X.env.scope.names.lookup x = some .local := by first | exact .inl rfl | exact .inr rfl | assumption) : DS X C W (.AugAssign (.Name x pos') op e pos) (gAug i f fe) := by
  obtain ⟨te, pe, qe⟩ := he.pr
  refine ⟨_, ps_aug hN hi hx pe ho hf, fun F A H σ s D o p => ?_⟩
  unfold gAug at p
  split at p
  · rename_i v e0
    obtain ⟨u, h1, h2⟩ := o.val i v e0
    refine ⟨u, h1, ?_⟩
    refine qe F A H σ s _ o (PostS.seq p fun q s1 y F1 A1 H1 _ o1 st1 r1 p1 => ?_)
    cases e1 : f v q with
    | none => rw [e1] at p1; exact p1.elim
    | some z =>
      rw [e1] at p1
      refine hd F1 A1 H1 σ s1 u y v q z _ o1 (h2.mono st1.s1) r1 e1 fun w F2 A2 H2 o2 st2 r2 => ?_
      obtain ⟨o3, st3⟩ := o2.setV (i := i) r2
      exact p1 _ _ _ _ o3 (st2.trans st3)
  · exact p.elim
def pAddI : PV → PV → Option PV
  | .int i, .int j => some (.int (i + j))
  | _, _ => none
theorem d_ipadd : ∀ F A H σ s x y p q z (Q : VK), OkF C F A H σ s → Rp C F x p → Rp C F y q → pAddI p q = some z → (∀ v F' A' H', OkF C F' A' H' σ s → Step C F A H F' A' H' → Rp C F' v z → Q v H') → ipI (fun i j => i + j) x y H Q := by
  intro F A H σ s x y p q z Q o r1 r2 e k
  unfold pAddI at e
  split at e
  · cases e; cases r1; cases r2
    exact ⟨_, _, rfl, rfl, k _ F A H o .refl (.int _)⟩
  · cases e
theorem d_ipsub : ∀ F A H σ s x y p q z (Q : VK), OkF C F A H σ s → Rp C F x p → Rp C F y q → pSub p q = some z → (∀ v F' A' H', OkF C F' A' H' σ s → Step C F A H F' A' H' → Rp C F' v z → Q v H') → ipI (fun i j => i - j) x y H Q := by
  intro F A H σ s x y p q z Q o r1 r2 e k
  unfold pSub at e
  split at e
  · cases e; cases r1; cases r2
    exact ⟨_, _, rfl, rfl, k _ F A H o .refl (.int _)⟩
  · cases e
end

/-! ### repr -/
def rRepr (K : PySem.W.Frag) : List V → Hp → VK → Prop := fun xs H Q => ∃ x d, xs = [x] ∧ Dp K H x d ∧ (d.showable = true ∧ d.hasDict = false ∧ d.shown.length ≤ sizeLine ∧ d.depth ≤ 30) ∧ Q (.str d.shown) H
theorem call_reprD {X : Cx} (gu : X.A.guards = some []) (hu : X.A.units + 64 < cLine) : CallR X (.builtin "repr") (rRepr X.K) := by
  intro pins s σ H xs us Q I rv h
  obtain ⟨x, d, rfl, hd, ⟨h1, h2, h3, h4⟩, q⟩ := h
  obtain ⟨u, rfl, ru⟩ := vals1 rv
  obtain ⟨as, hr⟩ := Dp.reads I d x u hd ru
  have ref_case : ∀ a, u = Value.ref a → wpAny (model X.prog X.w) X.A (call (.builtin "repr") [u]) (EP X pins σ Q) X.xe s := fun a ea => by
    subst ea
    exact repr_of_reads' hr h1 (PyData.noDict_hsm h2) gu (by omega) (fun _ _ e => e) (fun h' t tk k => ⟨.str d.shown, H, I.kept k, ⟨_, rfl⟩, q⟩) h3
  cases hd with
  | non =>
    cases ru
    exact PySem.P.repr_of_none ⟨.str _, H, I.tok _, ⟨_, rfl⟩, by simpa [PyData.shown] using q⟩
  | bl b =>
    cases ru
    exact PySem.P.repr_of_bool ⟨.str _, H, I.tok _, ⟨_, rfl⟩, by simpa [PyData.shown] using q⟩
  | int i =>
    obtain ⟨t, rfl⟩ := ru
    exact PySem.P.repr_of_int (by simpa [PyData.showable] using h1) ⟨.str _, H, I.tok _, ⟨_, rfl⟩, by simpa [PyData.shown] using q⟩
  | str z =>
    obtain ⟨t, rfl⟩ := ru
    exact PySem.P.repr_of_str ⟨.str _, H, I.tok _, ⟨_, rfl⟩, by simpa [PyData.shown] using q⟩ (by simpa [PyData.shown] using h3)
  | lst _ _ => exact ref_case _ ru
  | tup _ _ => exact ref_case _ ru
def okRepr (d : PyData) : Bool := d.showable && !d.hasDict && decide (d.shown.length ≤ 16777216) && decide (d.depth ≤ 30)
def pRepr : List PV → Option PV
  | [p] => match toD p with
    | some d => if okRepr d = true then some (.str d.shown) else none
    | none => none
  | _ => none
theorem c_repr {K : PySem.W.Frag} {C : Fx} (hK : K = C.K) : CallD C (rRepr K) pRepr := by
  intro F A H σ s x p z Q o r e k
  unfold pRepr at e
  split at e
  · rename_i p
    split at e
    · rename_i d hd
      split at e
      · rename_i ok
        cases e
        obtain ⟨v, rfl, h⟩ := rps1 r
        unfold okRepr at ok
        simp only [Bool.and_eq_true, decide_eq_true_eq, Bool.not_eq_true'] at ok
        refine ⟨v, d, rfl, by rw [hK]; exact dp_mono o.sub (dp_of h hd), ⟨ok.1.1.1, ok.1.1.2, line_le ok.1.2, ok.2⟩, k _ F A H o .refl (.str _)⟩
      · cases e
    · cases e
  · cases e

/-! ### calls with keywords -/
/-- the items of a list by their places -/
def permL {α : Type} (perm : List Nat) (l : List α) : List α := perm.filterMap fun i => l[i]?
theorem vals_perm {xs : List V} {us : List Value} (r : Vals xs us) : ∀ perm, Vals (permL perm xs) (permL perm us)
  | [] => .nil
  | i :: p => by
    unfold permL
    rw [List.filterMap_cons, List.filterMap_cons]
    cases e : xs[i]? with
    | none => rw [Vals.none_of r e]; exact vals_perm r p
    | some v =>
      obtain ⟨u, h1, h2⟩ := r.get e
      rw [h1]
      exact .cons h2 (vals_perm r p)
/-- n positional values, then the keywords ks: perm puts them in the parameters' order -/
def KwB (K : PySem.W.Frag) (fd : FuncData) (ps : List Str) (n : Nat) (ks : List Str) (perm : List Nat) : Prop :=
  ∀ (s : Shared) (us ws : List Value), K.In s.heap → us.length = n → ws.length = ks.length → BindsTo s fd ⟨us, ks.zip ws⟩ (ps.zip (permL perm (us ++ ws)))
section
variable {X : Cx} {Cn : CXT} {k n : Nat} {f : Addr} {fd : FuncData} {ps ks : List Str} {perm : List Nat} {sp : Sp} {E : L2.St → XK} {x : Str} {p pos : Pos} {e : Expr} {es : List Expr} {t tk : TA} {kws : List Keyword}
theorem run_kw {pins : List (Addr × Obj)} {σ : L2.St} {H : Hp} {s : Shared} {Q : VK} {us ws : List Value} {vs zs : List V} (F : FnG X.prog X.w X.K X.mg X.base Cn k f fd ps sp) (room : Room k X.A) (gu : X.A.guards = some []) (hb : KwB X.K fd ps n ks perm)
    (hx : PassesAt Cn X σ (E σ)) (I : Inv X pins σ H s) (rel : Vals vs us) (relz : Vals zs ws) (hn : vs.length = n) (hz : zs.length = ks.length) (h : sp (permL perm (vs ++ zs)) H Q (E σ)) :
    wpAny (model X.prog X.w) X.A (call (.ref f) us (ks.zip ws)) (EP X pins σ Q) X.xe s := by
  have rel2 := vals_perm (rel.append relz) perm
  refine wpAny_call (codeAny_mono (F.go X.A X.stack s H ⟨us, ks.zip ws⟩ (permL perm (us ++ ws)) (permL perm (vs ++ zs)) Q (E σ) room gu I.env0 (hb s us ws I.kIn (rel.length.symm.trans hn) (relz.length.symm.trans hz)) rel2 h) ?_)
  intro r s' z
  have q := cr_ep hx I z
  cases r with
  | error er => exact q
  | ok fl => cases fl <;> first | exact q | exact q.elim
def tKw (n m : Nat) (perm : List Nat) (sp : Sp) (E : L2.St → XK) (t tk : TA) : TE := fun σ H Q => t σ H fun vs H1 => tk σ H1 fun zs H2 => vs.length = n ∧ zs.length = m ∧ sp (permL perm (vs ++ zs)) H2 Q (E σ)
theorem pe_kw (F : FnG X.prog X.w X.K X.mg X.base Cn k f fd ps sp) (room : Room k X.A) (gu : X.A.guards = some []) (hg : Gl X x) (hm : X.mg x = some (.ref f)) (hk : PySem.W.keepIn X.K (.ref f) = true) (hb : KwB X.K fd ps n ks perm)
    (hx : ∀ σ, PassesAt Cn X σ (E σ)) (ha : PA X (e :: es) t) (hkw : PK X kws tk)
    (hall : (backToKw pos (keywordEach kws X.env)).all (·.1.isSome) = true) (hks : (backToKw pos (keywordEach kws X.env)).filterMap (·.1) = ks) (hdb : (x == ("__debug__" : Str)) = false)
    (he : starEach (e :: es) X.env = (false, eval e X.env) :: starEach es X.env) (hpl : ((backTo pos (starEach (e :: es) X.env)).any (·.1) || (backToKw pos (keywordEach kws X.env)).any (·.1.isNone)) = false) :
    PE X (.Call (.Name x p) (e :: es) kws pos) (tKw n ks.length perm sp E t tk) := by
  refine ⟨?_⟩
  intro pins s σ H Q I h
  refine wpAny_Call_Name_kw (ld_glob I hg hm ?_ hdb)
  refine PySem.W.callWith_KW (h₀ := X.base) I.ok.mod.kin hk hall (thn (ha.run pos pins s σ H _ I h) ?_) hpl he
  rintro us s1 ⟨vs, H1, I1, rel, q⟩
  refine thn (hkw.run pos pins s1 σ H1 _ I1 q) ?_
  rintro ws s2 ⟨zs, H2, I2, relz, q2, q3, q4⟩
  refine ⟨I2.kIn, ?_⟩
  rw [hks]
  exact run_kw F room gu hb (hx σ) I2 rel relz q2 q3 q4
theorem pe_kw0 (F : FnG X.prog X.w X.K X.mg X.base Cn k f fd ps sp) (room : Room k X.A) (gu : X.A.guards = some []) (hg : Gl X x) (hm : X.mg x = some (.ref f)) (hk : PySem.W.keepIn X.K (.ref f) = true) (hb : KwB X.K fd ps 0 ks perm)
    (hx : ∀ σ, PassesAt Cn X σ (E σ)) (hkw : PK X kws tk)
    (hall : (backToKw pos (keywordEach kws X.env)).all (·.1.isSome) = true) (hks : (backToKw pos (keywordEach kws X.env)).filterMap (·.1) = ks) (hdb : (x == ("__debug__" : Str)) = false)
    (hpl : ((backTo pos (starEach [] X.env)).any (·.1) || (backToKw pos (keywordEach kws X.env)).any (·.1.isNone)) = false) :
    PE X (.Call (.Name x p) [] kws pos) (tKw 0 ks.length perm sp E tNil tk) := by
  refine ⟨?_⟩
  intro pins s σ H Q I h
  refine wpAny_Call_Name_kw (ld_glob I hg hm ?_ hdb)
  refine PySem.W.callWith_KW0 (h₀ := X.base) I.ok.mod.kin hk hall (thn (hkw.run pos pins s σ H _ I h) ?_) hpl
  rintro ws s2 ⟨zs, H2, I2, relz, q2, q3, q4⟩
  refine ⟨I2.kIn, ?_⟩
  rw [hks]
  exact run_kw (us := []) F room gu hb (hx σ) I2 .nil relz q2 q3 q4
end
section
variable {X : Cx} {C : Fx} {W : WX} {a b c e tg : Expr} {es : List Expr} {kws : List Keyword} {pos p : Pos} {fa fk : Stt → Res (List AV)} {f : Addr} {fd : FuncData} {ps ks : List Str} {k n : Nat} {perm : List Nat} {m : List SV → List MO → FRes} {x : Str} {nm : Option Str} {kpos : Pos} {fe : Stt → Res PV}
structure DK (X : Cx) (C : Fx) (W : WX) (kws : List Keyword) (f : Stt → Res (List AV)) : Prop where
  pr : ∃ te, PK X kws te ∧ ∀ F A H σ s Q, OkF C F A H σ s → Post C W (fun F _ vs ps => RAs C σ F vs ps) F A H σ (f s) Q → te σ H Q
theorem dk_nil : DK X C W [] lNil := ⟨_, pk_nil, fun F A H σ s Q o p => Post.now o p .nil⟩
theorem dk_pv (ha : DV X C W e fe) (hs : DK X C W kws fk) : DK X C W (⟨nm, e, kpos⟩ :: kws) (lPv fe fk) := by
  obtain ⟨ta, pa, qa⟩ := ha.pr
  obtain ⟨tb, pb, qb⟩ := hs.pr
  refine ⟨_, pk_cons pa pb, fun F A H σ s Q o p => ?_⟩
  refine qa F A H σ s _ o (p.seq fun q1 s1 v1 F1 A1 H1 _ o1 st1 r1 p1 => ?_)
  refine qb F1 A1 H1 σ s1 _ o1 (p1.seq fun q2 s2 v2 F2 A2 H2 _ o2 st2 r2 p2 => ?_)
  exact Post.now o2 p2 (.pv (r1.mono st2.s1) r2)
theorem ras_perm {σ : L2.St} {F : Hp} {vs : List V} {as : List AV} (r : RAs C σ F vs as) : ∀ perm, RAs C σ F (permL perm vs) (permL perm as) := by
  have get : ∀ (i : Nat), (vs[i]? = none ∧ as[i]? = none) ∨ ∃ v a, vs[i]? = some v ∧ as[i]? = some a ∧ ((∃ p, a = AV.pv p ∧ Rp C F v p) ∨ ∃ j : Nat, a = AV.sl j ∧ σ[j]? = some (some v)) := by
    induction r with
    | nil => exact fun i => .inl ⟨by simp, by simp⟩
    | pv h _ ih =>
      intro i
      cases i with
      | zero => exact .inr ⟨_, _, rfl, rfl, .inl ⟨_, rfl, h⟩⟩
      | succ i => simpa using ih i
    | sl h _ ih =>
      intro i
      cases i with
      | zero => exact .inr ⟨_, _, rfl, rfl, .inr ⟨_, rfl, h⟩⟩
      | succ i => simpa using ih i
  intro perm
  induction perm with
  | nil => exact .nil
  | cons i p ih =>
    unfold permL
    rw [List.filterMap_cons, List.filterMap_cons]
    rcases get i with ⟨h1, h2⟩ | ⟨v, a, h1, h2, ⟨q, rfl, h3⟩ | ⟨j, rfl, h3⟩⟩
    · rw [h1, h2]; exact ih
    · rw [h1, h2]; exact .pv h3 ih
    · rw [h1, h2]; exact .sl h3 ih
theorem ras_len {σ : L2.St} {F : Hp} {vs : List V} {as : List AV} (r : RAs C σ F vs as) : vs.length = as.length := by
  induction r with
  | nil => rfl
  | pv _ _ ih => simpa using ih
  | sl _ _ ih => simpa using ih
theorem RAs.append {σ : L2.St} {F : Hp} {vs vs2 : List V} {as as2 : List AV} (r : RAs C σ F vs as) (r2 : RAs C σ F vs2 as2) : RAs C σ F (vs ++ vs2) (as ++ as2) := by
  induction r with
  | nil => exact r2
  | pv h _ ih => exact .pv h ih
  | sl h _ ih => exact .sl h ih
/-- the values of a call with keywords, in the parameters' order -/
def avK (n m : Nat) (perm : List Nat) (fa fk : Stt → Res (List AV)) : Stt → Res (List AV) := fun s => (fa s).bind fun l s1 => (fk s1).bind fun z s2 => if l.length = n ∧ z.length = m then .ok (permL perm (l ++ z)) s2 else .stuck
theorem dv_kw {np nk : Nat} (F : FnP X.prog X.w X.K X.mg X.base C.cl k f fd ps m) (hr : Room k X.A) (gu : X.A.guards = some []) (tk : Takes X W) (hK : X.K = C.K) (hm : X.mg x = some (.ref f)) (hk : PySem.W.keepIn X.K (.ref f) = true) (hb : KwB X.K fd ps n ks perm)
    (ha : DL X C W (a :: es) fa) (hkw : DK X C W kws fk) (hg : Gl X x := by rfl) (hall : (backToKw pos (keywordEach kws X.env)).all (·.1.isSome) = true := by rfl) (hks : (backToKw pos (keywordEach kws X.env)).filterMap (·.1) = ks := by rfl) (hdb : (x == ("__debug__" : Str)) = false := by decide)
    (he : starEach (a :: es) X.env = (false, eval a X.env) :: starEach es X.env := by rfl) (hpl : ((backTo pos (starEach (a :: es) X.env)).any (·.1) || (backToKw pos (keywordEach kws X.env)).any (·.1.isNone)) = false := by rfl) (hnn : ps.length = np := by rfl) (hnk : ks.length = nk := by rfl) :
    DV X C W (.Call (.Name x p) (a :: es) kws pos) (eCall m (avN np (avK n nk perm fa fk))) := by
  subst hnn hnk
  obtain ⟨ta, pa, qa⟩ := ha.pr
  obtain ⟨tb, pb, qb⟩ := hkw.pr
  refine ⟨_, pe_kw (E := fun σ c d H => W c d σ H) F hr gu hg hm hk hb (fun σ => passAt tk σ) pa pb hall hks hdb he hpl, fun F A H σ s Q o pp => ?_⟩
  unfold eCall avN avK at pp
  refine qa F A H σ s _ o ?_
  cases hf : fa s with
  | ex c v s1 => rw [hf] at pp; exact pp
  | stuck => rw [hf] at pp; exact pp
  | ok l s1 =>
    rw [hf] at pp
    intro vs F1 A1 H1 o1 st1 r1
    refine qb F1 A1 H1 σ s1 _ o1 ?_
    cases hz : fk s1 with
    | ex c v s2 => simp only [Res.bind_ok, hz, Res.bind_ex] at pp; exact Post.after st1 pp
    | stuck => simp only [Res.bind_ok, hz, Res.bind_stuck] at pp; exact pp.elim
    | ok z s2 =>
      simp only [Res.bind_ok, hz] at pp
      intro zs F2 A2 H2 o2 st2 r2
      by_cases hl : l.length = n ∧ z.length = ks.length
      · rw [if_pos hl] at pp
        simp only [Res.bind_ok] at pp
        by_cases hq : (permL perm (l ++ z)).length = ps.length
        · rw [if_pos hq] at pp
          simp only [Res.bind_ok] at pp
          exact ⟨(ras_len r1).trans hl.1, (ras_len r2).trans hl.2, call_post hK hq o2 (ras_perm ((r1.mono st2.s1).append r2) perm) (Post.after (st1.trans st2) pp)⟩
        · rw [if_neg hq] at pp; exact pp.elim
      · rw [if_neg hl] at pp; exact pp.elim
theorem dv_kw0 {np nk : Nat} (F : FnP X.prog X.w X.K X.mg X.base C.cl k f fd ps m) (hr : Room k X.A) (gu : X.A.guards = some []) (tk : Takes X W) (hK : X.K = C.K) (hm : X.mg x = some (.ref f)) (hk : PySem.W.keepIn X.K (.ref f) = true) (hb : KwB X.K fd ps 0 ks perm)
    (hkw : DK X C W kws fk) (hg : Gl X x := by rfl) (hall : (backToKw pos (keywordEach kws X.env)).all (·.1.isSome) = true := by rfl) (hks : (backToKw pos (keywordEach kws X.env)).filterMap (·.1) = ks := by rfl) (hdb : (x == ("__debug__" : Str)) = false := by decide)
    (hpl : ((backTo pos (starEach [] X.env)).any (·.1) || (backToKw pos (keywordEach kws X.env)).any (·.1.isNone)) = false := by rfl) (hnn : ps.length = np := by rfl) (hnk : ks.length = nk := by rfl) :
    DV X C W (.Call (.Name x p) [] kws pos) (eCall m (avN np (avK 0 nk perm lNil fk))) := by
  subst hnn hnk
  obtain ⟨tb, pb, qb⟩ := hkw.pr
  refine ⟨_, pe_kw0 (E := fun σ c d H => W c d σ H) F hr gu hg hm hk hb (fun σ => passAt tk σ) pb hall hks hdb hpl, fun F A H σ s Q o pp => ?_⟩
  unfold eCall avN avK lNil at pp
  show tb σ H fun zs H2 => (0 = 0 ∧ zs.length = ks.length ∧ spOf X.K C.cl ps.length m (permL perm ([] ++ zs)) H2 Q (fun c d H => W c d σ H))
  refine qb F A H σ s _ o ?_
  simp only [Res.bind_ok] at pp
  cases hz : fk s with
  | ex c v s2 => rw [hz] at pp; simp only [Res.bind_ex] at pp; exact pp
  | stuck => rw [hz] at pp; simp only [Res.bind_stuck] at pp; exact pp.elim
  | ok z s2 =>
    rw [hz] at pp
    simp only [Res.bind_ok] at pp
    intro zs F2 A2 H2 o2 st2 r2
    by_cases hl : ([] : List AV).length = 0 ∧ z.length = ks.length
    · rw [if_pos hl] at pp
      simp only [Res.bind_ok] at pp
      by_cases hq : (permL perm ([] ++ z)).length = ps.length
      · rw [if_pos hq] at pp
        simp only [Res.bind_ok] at pp
        exact ⟨rfl, (ras_len r2).trans hl.2, call_post hK hq o2 (ras_perm (RAs.append .nil r2) perm) (Post.after st2 pp)⟩
      · rw [if_neg hq] at pp; exact pp.elim
    · rw [if_neg hl] at pp; exact pp.elim
end
end PL

/-! PL11: walks over a list or a tuple, range with a step, enumerate, zip, list(range), slices of either. -/
namespace PL
open PySem PySem.Spec PyProof.Rows L2

section
variable {X : Cx} {C : Fx} {W : WX} {a b c e tg : Expr} {es tgs : List Expr} {pos : Pos} {fe fb : Stt → Res PV} {fa : Stt → Res (List PV)}
/-- a list or a tuple is walked -/
def iEith (K : PySem.W.Frag) (tl : TE) : TI := fun σ H R => tl σ H fun x H1 => ∃ a, x = .ref a ∧ (((∃ xs, SqL K H1 a xs) ∧ R (Itl K a) H1) ∨ ((∃ xs, SqT K H1 a xs) ∧ R (Itt K a) H1))
theorem pi_eith {tl : TE} (hl : PE X e tl) : PI X tg e (iEith X.K tl) := by
  refine ⟨?_⟩
  intro pins s σ H R I h
  refine thn (hl.run pins s σ H _ I h) ?_
  rintro v s1 ⟨x, H1, I1, r1, a, rfl, q⟩
  cases r1
  have new : H1 s1.heap.objs.size = none := I1.hok.fresh (Nat.le_refl _)
  have fp : ∀ b ∈ [s1.heap.objs.size], FpOk X pins H1 b := by
    intro b hb
    rw [List.mem_singleton] at hb
    rw [hb]
    exact I1.fpOk (Nat.le_refl _) new
  rcases q with ⟨⟨xs, hq⟩, q⟩ | ⟨⟨xs, hq⟩, q⟩
  · obtain ⟨its, _, p, _⟩ := I1.list hq
    refine wpAny_pyIter_list p.isList ⟨_, [s1.heap.objs.size], _, _, H1, rfl, I1.kept (t' := s1.toks) (fun b o => Heap.get?_push_of_some _), turn_list a _, ?_, fp, q⟩
    exact ⟨_, Heap.get?_push_size _ rfl, rfl, rfl⟩
  · obtain ⟨its, _, p, _⟩ := I1.tuple hq
    refine wpAny_pyIter_tuple (show s1.heap.IsTuple a its.toArray from p) ⟨_, [s1.heap.objs.size], _, _, H1, rfl, I1.kept (t' := s1.toks) (fun b o => Heap.get?_push_of_some _), turn_tuple a _, ?_, fp, q⟩
    exact ⟨_, Heap.get?_push_size _ rfl, rfl, rfl⟩
def iAny (fe : Stt → Res PV) : Stt → Res (List PV) := fun s => (fe s).bind fun p s1 => match p with
  | .lst l => .ok l s1
  | .tup l => .ok l s1
  | .scr l => .ok l s1
  | _ => .stuck
theorem di_any (hK : X.K = C.K) (he : DV X C W e fe) : DI X C W tg e (iAny fe) := by
  obtain ⟨te, pe, qe⟩ := he.pr
  refine ⟨_, pi_eith pe, fun F A H σ s Q o p => ?_⟩
  refine qe F A H σ s _ o (p.seq fun a s1 v F1 A1 H1 _ o1 st1 r1 p1 => ?_)
  cases r1 with
  | @lst b xs l h1 h2 =>
    have hS : ∀ H2, Same F1 H2 → SqL X.K H2 b xs := fun H2 sm => .inl (.inl (sm _ _ h1))
    have hw : Walk (Itl X.K b) l.length (fun H => SqL X.K H b xs) (YAt xs) := by rw [← h2.length]; exact walk_list
    exact ⟨b, rfl, .inl ⟨⟨xs, hS H1 o1.sub⟩, Post.now o1 p1 ⟨_, _, hw, hS, yat_ok h2⟩⟩⟩
  | @scr b xs l h1 h2 =>
    have hS : ∀ H2, Same F1 H2 → SqL X.K H2 b xs := fun H2 sm => by rw [hK]; exact sm.seq h1
    have hw : Walk (Itl X.K b) l.length (fun H => SqL X.K H b xs) (YAt xs) := by rw [← h2.length]; exact walk_list
    exact ⟨b, rfl, .inl ⟨⟨xs, hS H1 o1.sub⟩, Post.now o1 p1 ⟨_, _, hw, hS, yat_ok h2⟩⟩⟩
  | @tup b xs l h1 h2 =>
    have hS : ∀ H2, Same F1 H2 → SqT X.K H2 b xs := fun H2 sm => by rw [hK]; exact sqT_mono sm h1
    have hw : Walk (Itt X.K b) l.length (fun H => SqT X.K H b xs) (YAt xs) := by rw [← h2.length]; exact walk_tup
    exact ⟨b, rfl, .inr ⟨⟨xs, hS H1 o1.sub⟩, Post.now o1 p1 ⟨_, _, hw, hS, yat_ok h2⟩⟩⟩
  | _ => exact p1.elim
/-- range(i, j, c) -/
def rngC (i c : Int) (n : Nat) : List PV := (List.range n).map fun k : Nat => PV.int (i + k * c)
def okR3 (i j c : Int) : Bool := decide (c ≠ 0 ∧ c.natAbs < 1073741824 ∧ Builtin.Range.small i j c = true)
def iRange3 (fa : Stt → Res (List PV)) : Stt → Res (List PV) := fun s => (fa s).bind fun p s1 => match p with
  | [.int i, .int j, .int c] => if okR3 i j c = true ∧ 0 ≤ Builtin.Range.rangeSize i j c then .ok (rngC i c (Builtin.Range.rangeSize i j c).toNat) s1 else .stuck
  | _ => .stuck
theorem rps3 {F : Hp} {x : List V} {p q r : PV} (h : Rps C F x [p, q, r]) : ∃ v u w, x = [v, u, w] ∧ Rp C F v p ∧ Rp C F u q ∧ Rp C F w r := by
  cases h with
  | cons h t =>
    obtain ⟨u, w, rfl, hu, hw⟩ := rps2 t
    exact ⟨_, u, w, rfl, h, hu, hw⟩
theorem di_range3 {p : Pos} (hg : Gl X "range") (hm : X.mg "range" = none) (ha : DA X C W [a, b, c] fa)
    (hs : starEach [a, b, c] X.env = (false, eval a X.env) :: starEach [b, c] X.env := by rfl) (hpl : (backTo pos (starEach [b, c] X.env)).any (·.1) = false := by rfl) : DI X C W tg (.Call (.Name "range" p) [a, b, c] [] pos) (iRange3 fa) := by
  obtain ⟨te, pe, qe⟩ := ha.pr
  refine ⟨_, pi_range3 hg hm pe hs hpl, fun F A H σ s Q o p => ?_⟩
  refine qe F A H σ s _ o (p.seq fun l s1 v F1 A1 H1 _ o1 st1 r1 p1 => ?_)
  split at p1
  · rename_i i j c _
    split at p1
    · rename_i h
      obtain ⟨x, y, z, rfl, h1, h2, h3⟩ := rps3 r1
      cases h1; cases h2; cases h3
      obtain ⟨g1, g2, g3⟩ := of_decide_eq_true h.1
      refine ⟨i, j, c, (Builtin.Range.rangeSize i j c).toNat, rfl, ⟨g1, g2, g3, (Int.toNat_of_nonneg h.2).symm⟩, Post.now o1 p1 ?_⟩
      refine ⟨fun _ => True, YFn fun k => V.int (i + (k : Nat) * c), ?_, fun _ _ => trivial, ?_⟩
      · have e : (rngC i c (Builtin.Range.rangeSize i j c).toNat).length = (Builtin.Range.rangeSize i j c).toNat := by simp [rngC]
        rw [e]
        exact walk_rangeC
      · rintro k F1 A1 H1 σ s x H2 p o sm ⟨rfl, rfl⟩ hp
        unfold rngC at hp
        rw [List.getElem?_map] at hp
        cases e : (List.range (Builtin.Range.rangeSize i j c).toNat)[k]? with
        | none => rw [e] at hp; cases hp
        | some m =>
          rw [e] at hp
          obtain ⟨q1, q2⟩ := List.getElem?_eq_some_iff.mp e
          rw [List.getElem_range] at q2
          subst q2
          cases hp
          exact ⟨F1, o, .refl, .int _⟩
    · exact p1.elim
  · exact p1.elim
/-- pairs that are made anew -/
theorem ypair_ok {F : Hp} {xs ys : List V} {l : List PV} {lx ly : List PV} (hx : Rps C F xs lx) (hy : Rps C F ys ly) (hl : ∀ (i : Nat) p, l[i]? = some p → ∃ q r, lx[i]? = some q ∧ ly[i]? = some r ∧ p = .tup [q, r]) :
    ∀ i F1 A1 H1 σ s x H2 p, OkF C F1 A1 H1 σ s → Same F F1 → YPair (fun i => xs[i]?) (fun i => ys[i]?) i H1 x H2 → l[i]? = some p → ∃ F2, OkF C F2 A1 H2 σ s ∧ Step C F1 A1 H1 F2 A1 H2 ∧ Rp C F2 x p := by
  rintro i F1 A1 H1 σ s x H2 p o sm ⟨T, u, v, rfl, hT, rfl, h1, h2⟩ hp
  obtain ⟨q, r, e1, e2, rfl⟩ := hl i p hp
  obtain ⟨q', e3, r3⟩ := hx.getV h1
  obtain ⟨r', e4, r4⟩ := hy.getV h2
  rw [e1] at e3; cases e3
  rw [e2] at e4; cases e4
  obtain ⟨o2, st2⟩ := o.alloc (o := .tup [u, v]) hT
  exact ⟨_, o2, st2, .tup (.of upd_same) (.cons (r3.mono (sm.trans st2.s1)) (.cons (r4.mono (sm.trans st2.s1)) .nil))⟩
def zipP (x y : List PV) : List PV := List.zipWith (fun p q => PV.tup [p, q]) x y
def enumP (x : List PV) : List PV := zipP ((List.range x.length).map fun i : Nat => PV.int i) x
def iEnumP (fa : Stt → Res (List PV)) : Stt → Res (List PV) := fun s => (fa s).bind fun p s1 => match p with
  | [.lst l] => .ok (enumP l) s1
  | [.scr l] => .ok (enumP l) s1
  | _ => .stuck
def iZipP (fa : Stt → Res (List PV)) : Stt → Res (List PV) := fun s => (fa s).bind fun p s1 => match p with
  | [.lst l, .lst m] => .ok (zipP l m) s1
  | _ => .stuck
theorem enumP_len (x : List PV) : (enumP x).length = x.length := by simp [enumP, zipP]
theorem enum_ok {F : Hp} {xs : List V} {l : List PV} (hr : Rps C F xs l) : ∀ i F1 A1 H1 σ s x H2 p, OkF C F1 A1 H1 σ s → Same F F1 → YPair (fun i => some (V.int (i : Nat))) (fun i => xs[i]?) i H1 x H2 → (enumP l)[i]? = some p → ∃ F2, OkF C F2 A1 H2 σ s ∧ Step C F1 A1 H1 F2 A1 H2 ∧ Rp C F2 x p := by
  rintro i F1 A1 H1 σ s x H2 p o sm ⟨T, u, v, rfl, hT, rfl, h1, h2⟩ hp
  have h1 : some (V.int (i : Nat)) = some u := h1
  cases h1
  obtain ⟨r', e4, r4⟩ := hr.getV h2
  have hi : i < l.length := (List.getElem?_eq_some_iff.mp e4).1
  have ep : p = .tup [.int i, r'] := by
    unfold enumP zipP at hp
    rw [List.getElem?_zipWith] at hp
    simp [hi] at hp
    rw [← hp, List.getElem?_eq_getElem hi] at *
    cases e4
    rfl
  subst ep
  obtain ⟨o2, st2⟩ := o.alloc (o := .tup [.int i, v]) hT
  exact ⟨_, o2, st2, .tup (.of upd_same) (.cons (.int _) (.cons (r4.mono (sm.trans st2.s1)) .nil))⟩
theorem di_enum {p tpos : Pos} {elts : List Expr} {kk : Nat} (hK : X.K = C.K) (hg : Gl X "enumerate") (hm : X.mg "enumerate" = none) (ha : DA X C W [e] fa) (hs : starEach [e] X.env = [(false, eval e X.env)] := by rfl) :
    DI X C W (.Tuple elts kk tpos) (.Call (.Name "enumerate" p) [e] [] pos) (iEnumP fa) := by
  obtain ⟨te, pe, qe⟩ := ha.pr
  refine ⟨_, pi_enum hg hm pe hs, fun F A H σ s Q o p => ?_⟩
  refine qe F A H σ s _ o (p.seq fun l s1 v F1 A1 H1 _ o1 st1 r1 p1 => ?_)
  have fin : ∀ (b : Addr) (xs : List V) (l : List PV), (∀ H2, Same F1 H2 → SqL X.K H2 b xs) → Rps C F1 xs l → Post C W (RI C) F1 A1 H1 σ (.ok (enumP l) s1) Q → Q (Ite X.K b) H1 := fun b xs l hS hr pp => by
    refine Post.now o1 pp ⟨fun H => SqL X.K H b xs, _, ?_, hS, enum_ok hr⟩
    rw [enumP_len, ← hr.length]
    exact walk_enum
  split at p1
  · obtain ⟨u, rfl, h⟩ := rps1 r1
    cases h with
    | @lst b xs l h1 h2 => exact ⟨b, xs, rfl, .of (o1.sub _ _ h1), fin b xs _ (fun H2 sm => .of (sm _ _ h1)) h2 p1⟩
  · obtain ⟨u, rfl, h⟩ := rps1 r1
    cases h with
    | @scr b xs l h1 h2 => exact ⟨b, xs, rfl, by rw [hK]; exact o1.sub.seq h1, fin b xs _ (fun H2 sm => by rw [hK]; exact sm.seq h1) h2 p1⟩
  · exact p1.elim
theorem di_zip {p tpos : Pos} {elts : List Expr} {kk : Nat} {e2 : Expr} (hK : X.K = C.K) (hg : Gl X "zip") (hm : X.mg "zip" = none) (ha : DA X C W [e, e2] fa)
    (hs : starEach [e, e2] X.env = (false, eval e X.env) :: starEach [e2] X.env := by rfl) (hpl : (backTo pos (starEach [e2] X.env)).any (·.1) = false := by rfl) :
    DI X C W (.Tuple elts kk tpos) (.Call (.Name "zip" p) [e, e2] [] pos) (iZipP fa) := by
  obtain ⟨te, pe, qe⟩ := ha.pr
  refine ⟨_, pi_zip hg hm pe hs hpl, fun F A H σ s Q o p => ?_⟩
  refine qe F A H σ s _ o (p.seq fun l s1 v F1 A1 H1 _ o1 st1 r1 p1 => ?_)
  split at p1
  · rename_i l m _
    obtain ⟨u, w, rfl, h, h'⟩ := rps2 r1
    cases h with
    | @lst b xs _ h1 h2 =>
      cases h' with
      | @lst d ys _ h3 h4 =>
        refine ⟨b, d, xs, ys, rfl, .of (o1.sub _ _ h1), .of (o1.sub _ _ h3), Post.now o1 p1 ⟨fun H => SqL X.K H b xs ∧ SqL X.K H d ys, _, ?_, fun H2 sm => ⟨.of (sm _ _ h1), .of (sm _ _ h3)⟩, ypair_ok h2 h4 ?_⟩⟩
        · refine walk_zip ?_
          rw [zipP, List.length_zipWith, h2.length, h4.length]
        · intro i p hp
          unfold zipP at hp
          rw [List.getElem?_zipWith] at hp
          cases e1 : l[i]? with
          | none => rw [e1] at hp; simp at hp
          | some q =>
            cases e2 : m[i]? with
            | none => rw [e1, e2] at hp; simp at hp
            | some r =>
              rw [e1, e2] at hp
              simp at hp
              exact ⟨q, r, rfl, rfl, hp.symm⟩
  · exact p1.elim
/-- a slice of a list, a tuple, the script -/
def eSl (fa : Stt → Res PV) (fl fh : Stt → Res (Option Int)) : Stt → Res PV := fun s => (fa s).bind fun p s1 => (fl s1).bind fun lo s2 => (fh s2).bind fun hi s3 => match p with
  | .tup l => .ok (.tup (pCut l lo hi)) s3
  | .lst l => .ok (.lst (pCut l lo hi)) s3
  | .scr l => .ok (.lst (pCut l lo hi)) s3
  | _ => .stuck
theorem dv_sl {lo hi : Option Expr} {fl fh : Stt → Res (Option Int)} {p2 : Pos} (hK : X.K = C.K) (ha : DV X C W a fe) (hl : DP X C W lo fl) (hh : DP X C W hi fh) : DV X C W (.Subscript a (.Slice lo hi none p2) pos) (eSl fe fl fh) := by
  obtain ⟨ta, pa, qa⟩ := ha.pr
  obtain ⟨tl, pl, ql⟩ := hl.pr
  obtain ⟨th, ph, qh⟩ := hh.pr
  refine ⟨_, pe_slice (sl_tupA.or sl_list) pa pl ph, fun F A H σ s Q o p => ?_⟩
  refine qa F A H σ s _ o (p.seq fun q1 s1 v1 F1 A1 H1 _ o1 st1 r1 p1 => ?_)
  refine ql F1 A1 H1 σ s1 _ o1 (p1.seq fun l2 s2 v2 F2 A2 H2 _ o2 st2 r2 p2 => ?_)
  refine qh F2 A2 H2 σ s2 _ o2 (p2.seq fun l3 s3 v3 F3 A3 H3 _ o3 st3 r3 p3 => ?_)
  have r2 : v2 = l2 := r2
  have r3 : v3 = l3 := r3
  subst r2 r3
  have rm := r1.mono (st2.s1.trans st3.s1)
  cases rm with
  | @tup b xs l h1 h2 =>
    refine .inl ⟨b, xs, rfl, by rw [hK]; exact sqT_mono o3.sub h1, fun hw => ?_, fun _ q hq => ?_⟩
    · have e : cutV xs v2 v3 = xs := by
        unfold cutV
        rw [hw.1, hw.2]
        simp
      have rc := h2.cut v2 v3
      rw [e] at rc
      exact p3 _ F3 A3 H3 o3 .refl (.tup h1 rc)
    · obtain ⟨o4, st4⟩ := o3.alloc (o := .tup (cutV xs v2 v3)) hq
      exact p3 _ _ _ _ o4 st4 (.tup (.of upd_same) ((h2.cut v2 v3).mono st4.s1))
  | @lst b xs l h1 h2 =>
    refine .inr ⟨b, xs, rfl, .of (o3.sub _ _ h1), fun q hq => ?_⟩
    obtain ⟨o4, st4⟩ := o3.alloc (o := .lst (cutV xs v2 v3)) hq
    exact p3 _ _ _ _ o4 st4 (.lst upd_same ((h2.cut v2 v3).mono st4.s1))
  | @scr b xs l h1 h2 =>
    refine .inr ⟨b, xs, rfl, by rw [hK]; exact o3.sub.seq h1, fun q hq => ?_⟩
    obtain ⟨o4, st4⟩ := o3.alloc (o := .lst (cutV xs v2 v3)) hq
    exact p3 _ _ _ _ o4 st4 (.lst upd_same ((h2.cut v2 v3).mono st4.s1))
  | _ => exact p3.elim
/-- list(range(n)), list(range(i, j)) -/
noncomputable def oRg (i j : Int) (s : Stt) : Res MO := if (inR i && inR j) = true ∧ j - i ≤ 16777216 then .ok (.lst (rng i (j - i).toNat)) s else .stuck
noncomputable def oRg1 (fa : Stt → Res PV) : Stt → Res MO := fun s => (fa s).bind fun p s1 => match p with
  | .int j => oRg 0 j s1
  | _ => .stuck
noncomputable def oRg2 (fa fb : Stt → Res PV) : Stt → Res MO := fun s => (fa s).bind fun p s1 => (fb s1).bind fun q s2 => match p, q with
  | .int i, .int j => oRg i j s2
  | _, _ => .stuck
theorem rg_fresh {F H : Hp} {A : Nat → List Addr} {σ : L2.St} {s : Stt} {Q : VK} {i j : Int} (o : OkF C F A H σ s) (p : PostO C W F A H σ (oRg i j s) Q) : RgOk i j ∧ ∀ q, H q = none → Q (.ref q) (upd H q (.lst (rgV i j))) := by
  unfold oRg at p
  split at p
  · rename_i h
    obtain ⟨h0, h5⟩ := h
    rw [Bool.and_eq_true] at h0
    obtain ⟨h1, h2⟩ := inR_iff.mp h0.1
    obtain ⟨h3, h4⟩ := inR_iff.mp h0.2
    refine ⟨⟨h1, h2, h3, h4, by omega⟩, fun q hq => ?_⟩
    have hr : Rps C F (rgV i j) (rng i (j - i).toNat) := by
      unfold rgV rng
      have key : ∀ l : List Nat, Rps C F (l.map fun k => V.int (i + (k : Nat))) (l.map fun k : Nat => PV.int (i + k)) := by
        intro l
        induction l with
        | nil => exact .nil
        | cons x r ih => exact .cons (.int _) ih
      exact key _
    obtain ⟨o4, st4, f4⟩ := o.fresh (u := .lst (rgV i j)) (m := .lst (rng i (j - i).toNat)) hq ⟨rfl, _, upd_same, hr⟩
    exact p q _ _ _ o4 st4 f4
  · exact p.elim
theorem do_rg1 {p pos2 : Pos} {p2 : Pos} (hc : X.calm = true) (hg : Gl X "list") (hm : X.mg "list" = none) (hg2 : Gl X "range") (hm2 : X.mg "range" = none) (ha : DV X C W a fe)
    (na : starEach [.Call (.Name "range" p2) [a] [] pos2] X.env = (false, eval (.Call (.Name "range" p2) [a] [] pos2) X.env) :: starEach [] X.env := by rfl) (na2 : starEach [a] X.env = (false, eval a X.env) :: starEach [] X.env := by rfl) :
    DO X C W (.Call (.Name "list" p) [.Call (.Name "range" p2) [a] [] pos2] [] pos) (oRg1 fe) := by
  obtain ⟨ta, pa, qa⟩ := ha.pr
  refine ⟨_, pe_listRg hc hg hm (prg_1 hg2 hm2 pa na2) na, fun F A H σ s Q o p => ?_⟩
  refine qa F A H σ s _ o (PostO.seq p fun q1 s1 v1 F1 A1 H1 _ o1 st1 r1 p1 => ?_)
  cases r1 with
  | int j => exact ⟨j, rfl, rg_fresh o1 p1⟩
  | _ => exact p1.elim
theorem do_rg2 {p pos2 : Pos} {p2 : Pos} (hc : X.calm = true) (hg : Gl X "list") (hm : X.mg "list" = none) (hg2 : Gl X "range") (hm2 : X.mg "range" = none) (ha : DV X C W a fe) (hb : DV X C W b fb)
    (na : starEach [.Call (.Name "range" p2) [a, b] [] pos2] X.env = (false, eval (.Call (.Name "range" p2) [a, b] [] pos2) X.env) :: starEach [] X.env := by rfl) (na2 : starEach [a, b] X.env = (false, eval a X.env) :: starEach [b] X.env := by rfl) (na3 : starEach [b] X.env = (false, eval b X.env) :: starEach [] X.env := by rfl) (na4 : (backTo pos2 (starEach [b] X.env)).any (·.1) = false := by rfl) :
    DO X C W (.Call (.Name "list" p) [.Call (.Name "range" p2) [a, b] [] pos2] [] pos) (oRg2 fe fb) := by
  obtain ⟨ta, pa, qa⟩ := ha.pr
  obtain ⟨tb, pb, qb⟩ := hb.pr
  refine ⟨_, pe_listRg hc hg hm (prg_2 hg2 hm2 pa pb na2 na3 na4) na, fun F A H σ s Q o p => ?_⟩
  refine qa F A H σ s _ o (PostO.seq p fun q1 s1 v1 F1 A1 H1 _ o1 st1 r1 p1 => ?_)
  refine qb F1 A1 H1 σ s1 _ o1 (PostO.seq p1 fun q2 s2 v2 F2 A2 H2 _ o2 st2 r2 p2 => ?_)
  cases r1 with
  | int i =>
    cases r2 with
    | int j => exact ⟨i, j, rfl, rfl, rg_fresh o2 p2⟩
    | _ => exact p2.elim
  | _ => cases r2 <;> exact p2.elim
end
end PL

/-! PL12: a list grows; a pair of a value and a new list. -/
namespace PL
open PySem PySem.Spec PyProof.Rows L2
section
variable {X : Cx} {C : Fx} {W : WX} {a b e : Expr} {pos : Pos} {fa fb fe : Stt → Res PV} {fo : Stt → Res MO}
def gParO (i j : Nat) (fa : Stt → Res PV) (fo : Stt → Res MO) : Stt → Fl := fun s => (fa s).fl fun p s1 => (fo s1).fl fun m s2 => if j < s2.ro.length then .nx (setV i p (setO j m s2)) else .stuck
theorem ds_parO {i j : Nat} {x y : Str} {px py pt : Pos} {kt k2 pt2} (hc : X.calm = true) (hN : X.N.Nodup) (hi : X.N[i]? = some x) (hj : X.N[j]? = some y) (hij : i ≠ j)
    (hx : X.env.scope.names.lookup x = some .local) (hy : X.env.scope.names.lookup y = some .local) (ha : DV X C W a fa) (hb : DO X C W b fo)
    (hw : swappedStores [.Tuple [.Name x px, .Name y py] kt pt] (.Tuple [a, b] k2 pt2) X.env = pure (some [x, y]))
    (hs : swapsWithSole [.Tuple [.Name x px, .Name y py] kt pt] (.Tuple [a, b] k2 pt2) pos.line X.env = pure false := by rfl)
    (he : starEach [a, b] X.env = (false, eval a X.env) :: starEach [b] X.env := by rfl) (he2 : starEach [b] X.env = (false, eval b X.env) :: starEach [] X.env := by rfl) :
    DS X C W (.Assign [.Tuple [.Name x px, .Name y py] kt pt] (.Tuple [a, b] k2 pt2) pos) (gParO i j fa fo) := by
  obtain ⟨ta, pa, qa⟩ := ha.pr
  obtain ⟨tb, pb, qb⟩ := hb.pr
  refine ⟨_, ps_par hc hN hi hj hij hx hy (pa_cons pa (pa_cons pb pa_nil he2) he) hw hs, fun F A H σ s D o p => ?_⟩
  refine qa F A H σ s _ o (PostS.seq p fun v s1 xv F1 A1 H1 _ o1 st1 r1 p1 => ?_)
  refine qb F1 A1 H1 σ s1 _ o1 ?_
  cases hr : fo s1 with
  | ok m s2 =>
    rw [hr] at p1
    intro q F' A' H' o2 st2 fr
    simp only [Res.fl] at p1
    split at p1
    · rename_i hl
      obtain ⟨A2, o3, st3⟩ := o2.setO st2 fr hl
      obtain ⟨o4, st4⟩ := o3.setV (i := i) (r1.mono st3.s1)
      refine ⟨_, _, rfl, ?_⟩
      rw [List.set_comm _ _ (Ne.symm hij)] at o4
      exact p1 _ _ _ _ o4 (st3.trans st4)
    · exact p1.elim
  | ex c v s2 => rw [hr] at p1; exact fun d F' A' H' => p1 d σ F' A' H'
  | stuck => rw [hr] at p1; exact p1
def gApp (i : Nat) (fe : Stt → Res PV) : Stt → Fl := fun s => (getM s i).elim .stuck fun km => match km.2 with
  | .lst _ => (fe s).fl fun p s1 => match getM s1 i with
    | some (k, .lst l) => if l.length < 16777216 then .nx (setK s1 k (.lst (l ++ [p]))) else .stuck
    | _ => .stuck
  | _ => .stuck
theorem ds_app (i : Nat) {x : Str} {p p2 p3 : Pos} (he : DV X C W e fe) (hN : X.N[i]? = some x := by rfl) (hvis : Vis X.env.scope x := by first | exact Or.inl rfl | exact Or.inr (Or.inl rfl) | exact Or.inr (Or.inr rfl)) (hd : (x == ("__debug__" : Str)) = false := by decide)
    (hcd : (x == ("__classdict__" : Str)) = false := by decide) (hs : swapsWith (.Call (.Attribute (.Name x p) "append" p2) [e] [] p3) none pos.line X.env = pure false := by rfl)
    (hbase : attributeBase (.Name x p) "append" X.env (eval (.Name x p) X.env) = eval (.Name x p) X.env := by rfl)
    (hfew : ((backTo p3 (starEach [e] X.env)).all (fun x => !x.1) && (backToKw p3 (keywordEach [] X.env)).all (fun x => x.1.isSome)
      && decide (([e] : List Expr).length + ([] : List Keyword).length + (if ([] : List Keyword).isEmpty then 0 else 1) < 30)) = true := by rfl)
    (hline : (p2.endLine == p3.line) = true := by rfl) (hst : starEach [e] X.env = (false, eval e X.env) :: starEach [] X.env := by rfl) (hplain : (backTo p3 (starEach [] X.env)).any (·.1) = false := by rfl) :
    DS X C W (.Expr (.Call (.Attribute (.Name x p) "append" p2) [e] [] p3) pos) (gApp i fe) := by
  obtain ⟨te, pe, qe⟩ := he.pr
  refine ⟨_, ps_expr (pe_bm PySem.F.plainAttrs_list PySem.F.slot_list_append PySem.F.type_list_append mt_append (pe_var (i := i) hN hvis hd hcd) (pa_cons pe pa_nil hst) hbase hfew hline hst hplain) hs, fun F A H σ s D o pp => ?_⟩
  cases e0 : getM s i with
  | none => unfold gApp at pp; rw [e0] at pp; exact pp.elim
  | some km =>
    obtain ⟨k0, m0⟩ := km
    unfold gApp at pp
    rw [e0] at pp
    simp only [Option.elim_some] at pp
    cases m0 with
    | lst l0 =>
      simp only at pp
      obtain ⟨_, g0, ⟨_, xs0, hx0, _⟩⟩ := mut_at o e0
      refine ⟨_, g0, .inl ⟨rfl, _, SqL.of hx0⟩, ?_⟩
      refine qe F A H σ s _ o (PostS.seq pp fun pv s1 xv F1 A1 H1 _ o1 st1 r1 p1 => ?_)
      cases e1 : getM s1 i with
      | none => simp only [e1] at p1; exact p1.elim
      | some km2 =>
        obtain ⟨k, m⟩ := km2
        simp only [e1] at p1
        cases m with
        | lst l =>
          simp only at p1
          split at p1
          · rename_i hl
            obtain ⟨g1, g2, g3⟩ := mut_at o1 e1
            obtain ⟨_, xs, hx, hr⟩ := g3
            rw [g0] at g2
            have ea : adr σ C k0 = adr σ C k := V.ref.inj (Option.some.inj (Option.some.inj g2))
            refine ⟨_, xs, xv, rfl, rfl, by rw [ea]; exact hx, by rw [hr.length]; exact hl, ?_⟩
            rw [ea]
            obtain ⟨o3, st3⟩ := o1.updL g1 (Rps.append hr (.cons r1 .nil))
            exact p1 _ _ _ _ o3 st3
          · exact p1.elim
        | _ => exact p1.elim
    | _ => exact pp.elim
end
end PL

/-! PLT: the law's own end. -/
namespace PL
open PySem PySem.Spec PyProof.Rows L2
/-- the script as the law meets it -/
def scrOf (ns : List Int) : PV := .scr (ns.map PV.int)
theorem law_sp {K : PySem.W.Frag} {cl : Str → Addr} {m : List SV → List MO → FRes} (hm : ∀ ns : List Int, ns.length ≤ 63 → m [.val (scrOf ns)] [] = .ok (.bl true) []) {H : Hp} {a : Addr} {ns : List Int} (hl : ns.length ≤ 63) (hS : SqL K H a (ns.map V.int)) :
    spOf K cl 1 m [.ref a] H (fun v _ => v = .bl true) fun _ _ _ => False := by
  refine ⟨rfl, ⟨K, cl, 0, fun _ => 0, fun _ => []⟩, H, [.val (scrOf ns)], [], rfl, rfl, ?_, .val (.scr hS (Rps.of_ints ns)) .nil, ?_⟩
  · exact ⟨rfl, fun _ _ h => h, fun i v e => by simp at e, fun i m e => by simp at e, rfl, fun i k e => by simp at e, fun k m e => by simp at e, fun i b h => absurd h (by simp [noA]), fun _ _ _ h _ => absurd h (by simp [noA]), fun k b h _ => absurd h (Nat.not_lt_zero k), fun k j b h _ _ _ => absurd h (Nat.not_lt_zero k)⟩
  · rw [hm ns hl]
    intro u F' H' o st r
    cases r
    rfl
theorem no_cx {P : Program} {w : World} {H : Hp} {s : Shared} {e : Value} {s' : Shared} (h : L2.CX P w [] H s (fun _ _ _ => False) e s') : False := by
  obtain ⟨_, _, _, _, _, _, _, _, _, _, _, _, z⟩ := h
  exact z
end PL

/-! PLM: laws about the mirrors' words: loops, comprehensions, data shown and compared. -/
namespace PL
open PySem PySem.Spec PyProof.Rows L2

/-! ### loops -/
theorem forL_nil (a : PV → Stt → Option Stt) (b : Stt → Fl) (s : Stt) : forL a b [] s = .nx s := rfl
/-- a loop that comes to its end: I by the turn -/
theorem forL_inv {a : PV → Stt → Option Stt} {b : Stt → Fl} (I : Nat → Stt → Prop) : ∀ (l : List PV) (k : Nat) (s : Stt), I k s →
    (∀ i p s, l[i]? = some p → I (k + i) s → ∃ s1, a p s = some s1 ∧ ∃ s2, (b s1 = .nx s2 ∨ b s1 = .ct s2) ∧ I (k + i + 1) s2) → ∃ s2, forL a b l s = .nx s2 ∧ I (k + l.length) s2
  | [], k, s, h0, _ => ⟨s, rfl, h0⟩
  | p :: r, k, s, h0, h => by
    obtain ⟨s1, e1, s2, e2, h2⟩ := h 0 p s rfl h0
    have ih := forL_inv I r (k + 1) s2 h2 fun i q s' hq hI => by
      obtain ⟨t1, g1, t2, g2, g3⟩ := h (i + 1) q s' (by simpa using hq) (by rw [show k + (i + 1) = k + 1 + i by omega]; exact hI)
      exact ⟨t1, g1, t2, g2, by rw [show k + 1 + i + 1 = k + (i + 1) + 1 by omega]; exact g3⟩
    obtain ⟨s3, e3, h3⟩ := ih
    refine ⟨s3, ?_, by rw [List.length_cons, show k + (r.length + 1) = k + 1 + r.length by omega]; exact h3⟩
    rw [forL_cons _ _ _ _ _ _ e1]
    rcases e2 with e2 | e2 <;> rw [e2] <;> exact e3
/-- the same without turns -/
theorem forL_all {a : PV → Stt → Option Stt} {b : Stt → Fl} (I : Stt → Prop) {l : List PV} {s : Stt} (h0 : I s)
    (h : ∀ p s, p ∈ l → I s → ∃ s1, a p s = some s1 ∧ ∃ s2, (b s1 = .nx s2 ∨ b s1 = .ct s2) ∧ I s2) : ∃ s2, forL a b l s = .nx s2 ∧ I s2 :=
  forL_inv (fun _ => I) l 0 s h0 fun i p s hp hI => h p s (List.mem_of_getElem? hp) hI
/-- a comprehension whose parts leave the state as it is -/
theorem compL_map {vs : List Nat} {a : PV → Stt → Option Stt} {ft : Stt → Res Bool} {fe : Stt → Res PV} {s : Stt} (f : PV → Option PV) : ∀ (l acc : List PV), acc.length + l.length ≤ 16777216 →
    (∀ p ∈ l, ∃ s1, a p s = some s1 ∧ ((∃ s2 y s3, ft s1 = .ok true s2 ∧ fe s2 = .ok y s3 ∧ wipeS vs s3 = s ∧ f p = some y) ∨ ∃ s2, ft s1 = .ok false s2 ∧ wipeS vs s2 = s ∧ f p = none)) →
    compL vs a ft fe l acc s = .ok (acc ++ l.filterMap f) s
  | [], acc, _, _ => by simp [compL]
  | p :: r, acc, hl, h => by
    rw [List.length_cons] at hl
    obtain ⟨s1, e1, e2⟩ := h p List.mem_cons_self
    rw [compL_cons _ _ _ _ _ _ _ _ _ e1]
    rcases e2 with ⟨s2, y, s3, e2, e3, e4, e5⟩ | ⟨s2, e2, e4, e5⟩
    · rw [e2]
      simp only [Res.bind_ok, if_true, e3]
      rw [if_pos (by omega), e4, compL_map f r (acc ++ [y]) (by rw [List.length_append, List.length_singleton]; omega) fun q hq => h q (List.mem_cons_of_mem _ hq)]
      rw [List.filterMap_cons, e5]
      simp
    · rw [e2]
      simp only [Res.bind_ok, Bool.false_eq_true, if_false]
      rw [e4, compL_map f r acc (by omega) fun q hq => h q (List.mem_cons_of_mem _ hq)]
      rw [List.filterMap_cons, e5]
/-- a comprehension that changes the state: R tells of the results so far -/
theorem compL_inv {vs : List Nat} {a : PV → Stt → Option Stt} {fe : Stt → Res PV} (R : List PV → Stt → Prop) : ∀ (l acc : List PV) (s : Stt), acc.length + l.length ≤ 16777216 → R acc s →
    (∀ p acc s, p ∈ l → R acc s → ∃ s1, a p s = some s1 ∧ ∃ y s3, fe s1 = .ok y s3 ∧ R (acc ++ [y]) (wipeS vs s3)) →
    ∃ out s2, compL vs a tYesD fe l acc s = .ok out s2 ∧ R out s2 ∧ out.length = acc.length + l.length
  | [], acc, s, _, h0, _ => ⟨acc, s, rfl, h0, by simp⟩
  | p :: r, acc, s, hl, h0, h => by
    rw [List.length_cons] at hl
    obtain ⟨s1, e1, y, s3, e3, h3⟩ := h p acc s List.mem_cons_self h0
    obtain ⟨out, s2, e, hR, hlen⟩ := compL_inv R r (acc ++ [y]) (wipeS vs s3) (by rw [List.length_append, List.length_singleton]; omega) h3 fun q ac st hq => h q ac st (List.mem_cons_of_mem _ hq)
    refine ⟨out, s2, ?_, hR, by rw [hlen, List.length_append, List.length_singleton, List.length_cons]; omega⟩
    rw [compL_cons _ _ _ _ _ _ _ _ _ e1]
    simp only [tYesD, Res.bind_ok, if_true, e3]
    rw [if_pos (by omega)]
    exact e

/-! ### data shown and compared -/
theorem join_len_le (n : Nat) : ∀ ts : List Str, (∀ t ∈ ts, t.length ≤ n) → (Str.join ", " ts).length ≤ ts.length * (n + 2)
  | [], _ => by simp [Str.join]; decide
  | [x], h => by
    have := h x List.mem_cons_self
    show x.length ≤ 1 * (n + 2)
    omega
  | x :: y :: r, h => by
    have ih := join_len_le n (y :: r) fun t ht => h t (List.mem_cons_of_mem _ ht)
    have hx := h x List.mem_cons_self
    show (x ++ (", " : Str) ++ Str.join ", " (y :: r)).length ≤ _
    have e2 : ((", " : String) : Str).length = 2 := by decide
    rw [PySem.Str.length_append, PySem.Str.length_append, e2]
    simp only [List.length_cons] at ih ⊢
    have : (r.length + 1 + 1) * (n + 2) = (r.length + 1) * (n + 2) + (n + 2) := by rw [Nat.add_mul (r.length + 1) 1, Nat.one_mul]
    omega
theorem tupleText_le (n : Nat) (ts : List Str) (h : ∀ t ∈ ts, t.length ≤ n) : (tupleText ts).length ≤ ts.length * (n + 2) + 3 := by
  unfold tupleText
  rw [PySem.Str.length_append, PySem.Str.length_append]
  have e1 : ((("(" : String) : Str)).length = 1 := by decide
  have e2 : ((if ts.length == 1 then ",)" else ")" : String) : Str).length ≤ 2 := by split <;> decide
  have := join_len_le n ts h
  omega
theorem listText_le (n : Nat) (ts : List Str) (h : ∀ t ∈ ts, t.length ≤ n) : (listText ts).length ≤ ts.length * (n + 2) + 3 := by
  rw [show listText ts = (("[" : String) : Str) ++ Str.join ", " ts ++ (("]" : String) : Str) from listText_eq_join ts]
  rw [PySem.Str.length_append, PySem.Str.length_append]
  have e1 : ((("[" : String) : Str)).length = 1 := by decide
  have e2 : ((("]" : String) : Str)).length = 1 := by decide
  have := join_len_le n ts h
  omega
abbrev SO (x : Str) : Prop := PyData.strOk x = true
theorem so_of (s : String) : SO (Str.ofString s) := by
  show PyData.strOk _ = true
  rw [Str.ofString_eq_toList]
  unfold PyData.strOk
  simp only [List.all_toArray, List.all_map, List.all_eq_true]
  intro c _
  have := c.valid
  have h2 : c.toNat < 1114112 := by
    have h3 : c.val.toNat < 0xd800 ∨ 0xdfff < c.val.toNat ∧ c.val.toNat < 0x110000 := c.valid
    show c.val.toNat < 1114112
    omega
  simpa using h2
theorem so_app {x y : Str} (hx : SO x) (hy : SO y) : SO (x ++ y) := by
  unfold SO PyData.strOk at *
  show ((x.cps ++ y.cps).all _) = true
  rw [Array.all_append, hx, hy]
  rfl
theorem so_join {sep : Str} (h0 : SO sep) : ∀ {ts : List Str}, (∀ t ∈ ts, SO t) → SO (Str.join sep ts)
  | [], _ => so_of ""
  | [x], h => h x List.mem_cons_self
  | x :: y :: r, h => so_app (so_app (h x List.mem_cons_self) h0) (so_join h0 fun t ht => h t (List.mem_cons_of_mem _ ht))
theorem so_list {ts : List Str} (h : ∀ t ∈ ts, SO t) : SO (listText ts) := by
  rw [show listText ts = (("[" : String) : Str) ++ Str.join ", " ts ++ (("]" : String) : Str) from listText_eq_join ts]
  exact so_app (so_app (so_of "[") (so_join (so_of ", ") h)) (so_of "]")
theorem so_tuple {ts : List Str} (h : ∀ t ∈ ts, SO t) : SO (tupleText ts) := by
  unfold tupleText
  exact so_app (so_app (so_of "(") (so_join (so_of ", ") h)) (so_of _)
/-- p is data: shown in at most n signs, nested at most k deep -/
structure Rk (p : PV) (n k : Nat) : Prop where
  ex : ∃ d, toD p = some d ∧ d.showable = true ∧ d.hasDict = false ∧ d.canLay0 = true ∧ d.shown.length ≤ n ∧ d.depth ≤ k ∧ SO d.shown
structure Rks (l : List PV) (n k : Nat) : Prop where
  ex : ∃ ds, toDs l = some ds ∧ PyData.showableAll ds = true ∧ PyData.hasDictAll ds = false ∧ PyData.canLayAll0 ds = true ∧ (∀ t ∈ PyData.shownAll ds, t.length ≤ n) ∧ PyData.depthAll ds ≤ k ∧ ds.length = l.length ∧ ∀ t ∈ PyData.shownAll ds, SO t
theorem Rk.mono {p : PV} {n k n' k' : Nat} (h : Rk p n k) (hn : n ≤ n') (hk : k ≤ k') : Rk p n' k' := by
  obtain ⟨d, h1, h2, h3, h4, h5, h6, h7⟩ := h.ex
  exact ⟨d, h1, h2, h3, h4, Nat.le_trans h5 hn, Nat.le_trans h6 hk, h7⟩
theorem Rks.of {n k : Nat} : ∀ {l : List PV}, (∀ p ∈ l, Rk p n k) → Rks l n k
  | [], _ => ⟨[], rfl, by simp [PyData.showableAll], by simp [PyData.hasDictAll], by simp [PyData.canLayAll0], by simp [PyData.shownAll], by simp [PyData.depthAll], rfl, by simp [PyData.shownAll]⟩
  | p :: r, h => by
    obtain ⟨d, h1, h2, h3, h4, h5, h6, h7⟩ := (h p List.mem_cons_self).ex
    obtain ⟨ds, g1, g2, g3, g4, g5, g6, g7, g8⟩ := (Rks.of (l := r) fun q hq => h q (List.mem_cons_of_mem _ hq)).ex
    refine ⟨d :: ds, ?_, ?_, ?_, ?_, ?_, ?_, by simp [g7], ?_⟩
    · unfold toDs; rw [h1, g1]
    · rw [PyData.showableAll, h2, g2]; rfl
    · rw [PyData.hasDictAll, h3, g3]; rfl
    · rw [PyData.canLayAll0, h4, g4]; rfl
    · rw [PyData.shownAll]
      intro t ht
      rcases List.mem_cons.mp ht with e | e
      · rw [e]; exact h5
      · exact g5 t e
    · rw [PyData.depthAll]
      omega
    · rw [PyData.shownAll]
      intro t ht
      rcases List.mem_cons.mp ht with e | e
      · rw [e]; exact h7
      · exact g8 t e
theorem shownAll_length : ∀ ds : List PyData, (PyData.shownAll ds).length = ds.length
  | [] => by simp [PyData.shownAll]
  | d :: r => by rw [PyData.shownAll, List.length_cons, List.length_cons, shownAll_length r]
theorem Rk.non : Rk .non 4 0 := ⟨.none, rfl, by simp [PyData.showable], by simp [PyData.hasDict], by simp [PyData.canLay0], by simp [PyData.shown]; decide, by simp [PyData.depth], by simp only [PyData.shown]; exact so_of _⟩
theorem Rk.bl (b : Bool) : Rk (.bl b) 5 0 := ⟨.bool b, rfl, by simp [PyData.showable], by simp [PyData.hasDict], by simp [PyData.canLay0], by cases b <;> simp [PyData.shown] <;> decide, by simp [PyData.depth], by cases b <;> simp only [PyData.shown] <;> exact so_of _⟩
theorem Rk.int {i : Int} (h : i.natAbs.log2 < 1920) : Rk (.int i) 1921 0 := by
  refine ⟨.int i, rfl, by simpa [PyData.showable] using h, by simp [PyData.hasDict], by simp [PyData.canLay0], ?_, by simp [PyData.depth], by simp only [PyData.shown]; exact so_of _⟩
  have := int_text_length_le (a := i) (k := 1920) (by decide) h
  simp only [PyData.shown]
  rw [PySem.ofString_length]
  exact this
/-- a number of few digits -/
theorem Rk.int10 {i : Int} {k : Nat} (h0 : 0 < k) (hk : k ≤ 500) (h : i.natAbs < 10 ^ k) : Rk (.int i) (k + 1) 0 := by
  have hlog : i.natAbs.log2 < 1920 := by
    by_cases hz : i.natAbs = 0
    · rw [hz]; decide
    · rw [Nat.log2_lt hz]
      refine Nat.lt_trans h (Nat.lt_of_le_of_lt (Nat.pow_le_pow_right (by decide) hk) (by decide +kernel))
  refine ⟨.int i, rfl, by simpa [PyData.showable] using hlog, by simp [PyData.hasDict], by simp [PyData.canLay0], ?_, by simp [PyData.depth], by simp only [PyData.shown]; exact so_of _⟩
  have := int_text_length_le10 (a := i) h0 h
  simp only [PyData.shown]
  rw [PySem.ofString_length]
  exact this
theorem Rk.lst {l : List PV} {n k : Nat} (h : ∀ p ∈ l, Rk p n k) : Rk (.lst l) (l.length * (n + 2) + 3) (k + 1) := by
  obtain ⟨ds, g1, g2, g3, g4, g5, g6, g7, g8⟩ := (Rks.of h).ex
  refine ⟨.list ds, by show (toDs l).map _ = _; rw [g1]; rfl, by rw [PyData.showable]; exact g2, by rw [PyData.hasDict]; exact g3, by rw [PyData.canLay0]; exact g4, ?_, by rw [PyData.depth]; omega, by rw [PyData.shown]; exact so_list g8⟩
  rw [PyData.shown]
  have := listText_le n _ g5
  rw [shownAll_length, g7] at this
  exact this
theorem Rk.tup {l : List PV} {n k : Nat} (h : ∀ p ∈ l, Rk p n k) : Rk (.tup l) (l.length * (n + 2) + 3) (k + 1) := by
  obtain ⟨ds, g1, g2, g3, g4, g5, g6, g7, g8⟩ := (Rks.of h).ex
  refine ⟨.tuple ds, by show (toDs l).map _ = _; rw [g1]; rfl, by rw [PyData.showable]; exact g2, by rw [PyData.hasDict]; exact g3, by rw [PyData.canLay0]; exact g4, ?_, by rw [PyData.depth]; omega, by rw [PyData.shown]; exact so_tuple g8⟩
  rw [PyData.shown]
  have := tupleText_le n _ g5
  rw [shownAll_length, g7] at this
  exact this
theorem Rk.repr {p : PV} {n k : Nat} (h : Rk p n k) (hn : n ≤ 16777216) (hk : k ≤ 30) : ∃ x, pRepr [p] = some (.str x) := by
  obtain ⟨d, h1, h2, h3, h4, h5, h6, h7⟩ := h.ex
  refine ⟨d.shown, ?_⟩
  unfold pRepr
  simp only [h1]
  rw [if_pos]
  unfold okRepr
  rw [h2, h3, decide_eq_true (Nat.le_trans h5 hn), decide_eq_true (Nat.le_trans h6 hk)]
  rfl
theorem Rk.shaped {p : PV} {n k : Nat} (h : Rk p n k) (hk : k ≤ 64) : ∃ d, toD p = some d ∧ SeqAt.shaped d = true ∧ d.canLay0 = true := by
  obtain ⟨d, h1, h2, h3, h4, h5, h6, h7⟩ := h.ex
  refine ⟨d, h1, ?_, h4⟩
  unfold SeqAt.shaped
  rw [h4, decide_eq_true (Nat.le_trans h6 hk)]
  rfl
theorem Rk.eq_self {p : PV} {n k : Nat} (h : Rk p n k) (hk : k ≤ 64) : pEqB p p = some true := by
  obtain ⟨d, h1, h2, h3⟩ := h.shaped hk
  unfold pEqB
  simp only [h1, h2, Bool.and_self, if_true]
  rw [SeqAt.eqv_refl d h3]
/-! lists of numbers -/
theorem toDs_ints : ∀ ns : List Int, toDs (ns.map PV.int) = some (ns.map PyData.int)
  | [] => rfl
  | n :: r => by
    rw [List.map_cons, List.map_cons]
    unfold toDs
    rw [toDs_ints r]
    rfl
theorem toDs_bls : ∀ ns : List Bool, toDs (ns.map PV.bl) = some (ns.map PyData.bool)
  | [] => rfl
  | n :: r => by
    rw [List.map_cons, List.map_cons]
    unfold toDs
    rw [toDs_bls r]
    rfl
theorem lay_ints : ∀ ns : List Int, PyData.canLayAll0 (ns.map PyData.int) = true
  | [] => by simp [PyData.canLayAll0]
  | n :: r => by rw [List.map_cons, PyData.canLayAll0, lay_ints r]; simp [PyData.canLay0]
theorem depth_ints : ∀ ns : List Int, PyData.depthAll (ns.map PyData.int) = 0
  | [] => by simp [PyData.depthAll]
  | n :: r => by rw [List.map_cons, PyData.depthAll, depth_ints r]; simp [PyData.depth]
theorem shaped_ints (ns : List Int) : SeqAt.shaped (.list (ns.map PyData.int)) = true := by
  unfold SeqAt.shaped
  rw [PyData.canLay0, lay_ints, PyData.depth, depth_ints]
  decide
theorem eqv_ints : ∀ ns ms : List Int, PyData.eqvAll (ns.map PyData.int) (ms.map PyData.int) = decide (ns = ms)
  | [], [] => by simp [PyData.eqvAll]
  | [], _ :: _ => by simp [PyData.eqvAll]
  | _ :: _, [] => by simp [PyData.eqvAll]
  | a :: r, b :: t => by
    rw [List.map_cons, List.map_cons, PyData.eqvAll, eqv_ints r t, PyData.eqv]
    by_cases h : a = b
    · subst h; simp
    · simp [h]
theorem eqB_ints (ns ms : List Int) : pEqB (.lst (ns.map PV.int)) (.lst (ms.map PV.int)) = some (decide (ns = ms)) := by
  unfold pEqB
  have e1 : toD (.lst (ns.map PV.int)) = some (.list (ns.map PyData.int)) := by show (toDs _).map _ = _; rw [toDs_ints]; rfl
  have e2 : toD (.lst (ms.map PV.int)) = some (.list (ms.map PyData.int)) := by show (toDs _).map _ = _; rw [toDs_ints]; rfl
  simp only [e1, e2, shaped_ints, Bool.and_self, if_true]
  rw [PyData.eqv, eqv_ints]
theorem eqB_int (a b : Int) : pEqB (.int a) (.int b) = some (a == b) := by
  simp [pEqB, toD, SeqAt.shaped, PyData.canLay0, PyData.depth, PyData.eqv]
theorem inB_ints (a : Int) (ns : List Int) : pInB (.int a) (.lst (ns.map PV.int)) = some (decide (a ∈ ns)) := by
  unfold pInB
  have e0 : SeqAt.shaped (.int a) = true := by simp [SeqAt.shaped, PyData.canLay0, PyData.depth]
  simp only [toD, toDs_ints, e0, shaped_ints, Bool.and_self, if_true]
  congr 1
  induction ns with
  | nil => simp
  | cons b r ih =>
    rw [List.map_cons, List.any_cons, ih, PyData.eqv]
    by_cases h : b = a
    · subst h; simp
    · have h' : ¬ a = b := fun e => h e.symm
      simp [h, h']
end PL

/-! PM: the mirrors of the program's defs (printed by gen.py). -/
namespace PM
open PySem PySem.Spec PyProof.Rows L2 PL
noncomputable def g__law_draw : Stt → Fl :=
  (gSeq (gIf (tOf (eBin pGt (eIxM 0 (eC (.int 0))) (eC (.int 0))))
  (gSeq (gAsg (eBin pMod (eIxM 0 (eC (.int 0))) (eVar 1)) (aName 2))
  (gSeq (gSetIx 0 (eBin pFdiv (eIxM 0 (eC (.int 0))) (eVar 1)) (eC (.int 0)))
  (gSeq (gRet (eVar 2))
  gNop)))
  gNop)
  (gSeq (gSetIx 0 (eBin pAdd (eIxM 0 (eC (.int 2))) (eC (.int 1))) (eC (.int 2)))
  (gSeq (gAsg (eBin pMod (eBin pPow (eBin pAdd (eIxM 0 (eC (.int 1))) (eBin pMul (eC (.int 179424673)) (eIxM 0 (eC (.int 2))))) (eC (.int 3))) (eC (.int 162259276829213363391578010288127))) (aName 3))
  (gSeq (gAsg (eBin pMod (eBin pPow (eBin pAdd (eVar 3) (eBin pMul (eC (.int 86028157)) (eIxM 0 (eC (.int 2))))) (eC (.int 3))) (eC (.int 170141183460469231731687303715884105727))) (aName 3))
  (gSeq (gRet (eBin pMod (eBin pFdiv (eVar 3) (eC (.int 2097152))) (eVar 1)))
  gNop)))))
noncomputable def m__law_draw : List SV → List MO → FRes := mOf 4 g__law_draw
noncomputable def g_is_guard : Stt → Fl :=
  (gSeq (gAsg (eVar 0) (aTup 4 (asCons (aName 1) (asCons (aName 2) (asCons (aName 3) (asCons (aName 4) asNil))))))
  (gSeq (gRet (eAn (eChain pLe pLe (eC (.int 0)) (eVar 1) (eVar 2)) (eChain pLe pLt (eC (.int 0)) (eVar 4) (eVar 3))))
  gNop))
noncomputable def m_is_guard : List SV → List MO → FRes := mOf 5 g_is_guard
noncomputable def g_check_guard : Stt → Fl :=
  (gSeq (gIf (tNt (tTru (eCall PM.m_is_guard (avN 1 (lPv (eVar 0) lNil)))))
  (gSeq (fun _ => Fl.stuck)
  gNop)
  gNop)
  gNop)
noncomputable def m_check_guard : List SV → List MO → FRes := mOf 1 g_check_guard
noncomputable def g_first_of : Stt → Fl :=
  (gSeq (gAsg (eVar 0) (aTup 4 (asCons (aName 1) (asCons (aName 2) (asCons (aName 3) (asCons (aName 4) asNil))))))
  (gSeq (gRet (eBin pAdd (eVar 1) (eBin pMod (eBin pSub (eVar 4) (eVar 1)) (eVar 3))))
  gNop))
noncomputable def m_first_of : List SV → List MO → FRes := mOf 5 g_first_of
noncomputable def g_lanes_of : Stt → Fl :=
  (gSeq (gRet (eCallB pMax2 (aCons (eC (.int 0)) (aCons (eBin pFdiv (eBin pSub (eBin pAdd (eBin pSub (eBin pIx (eVar 0) (eC (.int 1))) (eCall PM.m_first_of (avN 1 (lPv (eVar 0) lNil)))) (eBin pIx (eVar 0) (eC (.int 2)))) (eC (.int 1))) (eBin pIx (eVar 0) (eC (.int 2)))) aNil))))
  gNop)
noncomputable def m_lanes_of : List SV → List MO → FRes := mOf 1 g_lanes_of
noncomputable def g_count_lanes : Stt → Fl :=
  (gSeq (gDrop (eCall PM.m_check_guard (avN 1 (lPv (eVar 0) lNil))))
  (gSeq (gRet (eCall PM.m_lanes_of (avN 1 (lPv (eVar 0) lNil))))
  gNop))
noncomputable def m_count_lanes : List SV → List MO → FRes := mOf 1 g_count_lanes
noncomputable def g_has : Stt → Fl :=
  (gSeq (gAsg (eVar 0) (aTup 4 (asCons (aName 2) (asCons (aName 3) (asCons (aName 4) (asCons (aName 5) asNil))))))
  (gSeq (gRet (eAn (eChain pLe pLt (eVar 2) (eVar 1) (eVar 3)) (eBin pEq (eBin pMod (eVar 1) (eVar 4)) (eVar 5))))
  gNop))
noncomputable def m_has : List SV → List MO → FRes := mOf 6 g_has
noncomputable def g_has_lane : Stt → Fl :=
  (gSeq (gDrop (eCall PM.m_check_guard (avN 1 (lPv (eVar 0) lNil))))
  (gSeq (gRet (eCall PM.m_has (avN 2 (lPv (eVar 0) (lPv (eVar 1) lNil)))))
  gNop))
noncomputable def m_has_lane : List SV → List MO → FRes := mOf 2 g_has_lane
noncomputable def g_bezout : Stt → Fl :=
  (gSeq (gAsg (eTup (aCons (eVar 0) (aCons (eVar 1) (aCons (eC (.int 1)) (aCons (eC (.int 0)) aNil))))) (aTup 4 (asCons (aName 2) (asCons (aName 3) (asCons (aName 4) (asCons (aName 5) asNil))))))
  (gSeq (gWhile (tOf (eBin pNe (eVar 3) (eC (.int 0))))
  (gSeq (gAsg (eBin pFdiv (eVar 2) (eVar 3)) (aName 6))
  (gSeq (gPar 2 3 (aCons (eVar 3) (aCons (eBin pSub (eVar 2) (eBin pMul (eVar 6) (eVar 3))) aNil)))
  (gSeq (gPar 4 5 (aCons (eVar 5) (aCons (eBin pSub (eVar 4) (eBin pMul (eVar 6) (eVar 5))) aNil)))
  gNop))))
  (gSeq (gRet (eIf (tOf (eBin pGe (eVar 2) (eC (.int 0)))) (eTup (aCons (eVar 2) (aCons (eVar 4) aNil))) (eTup (aCons (eUn pNeg (eVar 2)) (aCons (eUn pNeg (eVar 4)) aNil)))))
  gNop)))
noncomputable def m_bezout : List SV → List MO → FRes := mOf 7 g_bezout
noncomputable def g_meeting : Stt → Fl :=
  (gSeq (gAsg (eCall PM.m_bezout (avN 2 (lPv (eBin pIx (eVar 0) (eC (.int 2))) (lPv (eBin pIx (eVar 1) (eC (.int 2))) lNil)))) (aTup 2 (asCons (aName 2) (asCons (aName 3) asNil))))
  (gSeq (gAsg (eBin pSub (eBin pIx (eVar 1) (eC (.int 3))) (eBin pIx (eVar 0) (eC (.int 3)))) (aName 4))
  (gSeq (gIf (tOf (eBin pNe (eBin pMod (eVar 4) (eVar 2)) (eC (.int 0))))
  (gSeq (gRet (eC .non))
  gNop)
  gNop)
  (gSeq (gAsg (eBin pMul (eBin pFdiv (eBin pIx (eVar 0) (eC (.int 2))) (eVar 2)) (eBin pIx (eVar 1) (eC (.int 2)))) (aName 5))
  (gSeq (gAsg (eBin pMod (eBin pAdd (eBin pIx (eVar 0) (eC (.int 3))) (eBin pMul (eBin pIx (eVar 0) (eC (.int 2))) (eBin pMul (eBin pFdiv (eVar 4) (eVar 2)) (eVar 3)))) (eVar 5)) (aName 6))
  (gSeq (gAsg (eTup (aCons (eCallB pMax2 (aCons (eBin pIx (eVar 0) (eC (.int 0))) (aCons (eBin pIx (eVar 1) (eC (.int 0))) aNil))) (aCons (eCallB pMin2 (aCons (eBin pIx (eVar 0) (eC (.int 1))) (aCons (eBin pIx (eVar 1) (eC (.int 1))) aNil))) (aCons (eVar 5) (aCons (eVar 6) aNil))))) (aName 7))
  (gSeq (gRet (eIf (tAn (tOf (eBin pLt (eBin pIx (eVar 7) (eC (.int 0))) (eBin pIx (eVar 7) (eC (.int 1))))) (tOf (eBin pGt (eCall PM.m_lanes_of (avN 1 (lPv (eVar 7) lNil))) (eC (.int 0))))) (eVar 7) (eC .non)))
  gNop)))))))
noncomputable def m_meeting : List SV → List MO → FRes := mOf 8 g_meeting
noncomputable def g_met : Stt → Fl :=
  (gSeq (gDrop (eCall PM.m_check_guard (avN 1 (lPv (eVar 0) lNil))))
  (gSeq (gDrop (eCall PM.m_check_guard (avN 1 (lPv (eVar 1) lNil))))
  (gSeq (gRet (eCall PM.m_meeting (avN 2 (lPv (eVar 0) (lPv (eVar 1) lNil)))))
  gNop)))
noncomputable def m_met : List SV → List MO → FRes := mOf 2 g_met
noncomputable def g_lane_at : Stt → Fl :=
  (gSeq (gRet (eBin pAdd (eCall PM.m_first_of (avN 1 (lPv (eVar 0) lNil))) (eBin pMul (eBin pIx (eVar 0) (eC (.int 2))) (eVar 1))))
  gNop)
noncomputable def m_lane_at : List SV → List MO → FRes := mOf 2 g_lane_at
noncomputable def g_nth_lane : Stt → Fl :=
  (gSeq (gDrop (eCall PM.m_check_guard (avN 1 (lPv (eVar 0) lNil))))
  (gSeq (gIf (tNt (tOf (eChain pLe pLt (eC (.int 0)) (eVar 1) (eCall PM.m_lanes_of (avN 1 (lPv (eVar 0) lNil))))))
  (gSeq (fun _ => Fl.stuck)
  gNop)
  gNop)
  (gSeq (gRet (eCall PM.m_lane_at (avN 2 (lPv (eVar 0) (lPv (eVar 1) lNil)))))
  gNop)))
noncomputable def m_nth_lane : List SV → List MO → FRes := mOf 2 g_nth_lane
noncomputable def g__law_source : Stt → Fl :=
  (gSeq (gAsg (eTup (aCons (eC (.int 0)) (aCons (eC (.int 7368787)) aNil))) (aTup 2 (asCons (aName 1) (asCons (aName 2) asNil))))
  (gSeq (gFor (iAny (eSl (eVar 0) pNo (pSo (eC (.int 63))))) (aName 3)
  (gSeq (gIf (tOf (eBin pGe (eCallB pAbs (aCons (eVar 3) aNil)) (eBin pPow (eC (.int 10)) (eC (.int 18)))))
  (gSeq (gAsg (eBin pAdd (eBin pMul (eVar 1) (eBin pPow (eC (.int 10)) (eC (.int 60)))) (eBin pMod (eCallB pAbs (aCons (eVar 3) aNil)) (eBin pPow (eC (.int 10)) (eC (.int 60))))) (aName 1))
  gNop)
  gNop)
  (gSeq (gAsg (eBin pMod (eBin pAdd (eBin pAdd (eBin pMul (eVar 2) (eC (.int 6700417))) (eBin pMod (eVar 3) (eC (.int 2305843009213693921)))) (eC (.int 13))) (eC (.int 2305843009213693951))) (aName 2))
  gNop)))
  (gSeq (gRetO (oLst (aCons (eVar 1) (aCons (eVar 2) (aCons (eC (.int 0)) aNil)))))
  gNop)))
noncomputable def m__law_source : List SV → List MO → FRes := mOf 4 g__law_source
end PM

/-! PN: guards: the plain law. -/
namespace PN
def firstOf (l s r : Int) : Int := l + (r - l) % s
def lanesOf (l h s r : Int) : Int := max 0 ((h - firstOf l s r + s - 1) / s)
theorem first_ge {l s r : Int} (hs : 0 < s) : l ≤ firstOf l s r := by
  unfold firstOf
  have := Int.emod_nonneg (r - l) (show s ≠ 0 by omega)
  omega
theorem first_lt {l s r : Int} (hs : 0 < s) : firstOf l s r < l + s := by
  unfold firstOf
  have := Int.emod_lt_of_pos (r - l) hs
  omega
theorem first_mod {l s r : Int} (hs : 0 < s) (h0 : 0 ≤ r) (h1 : r < s) : firstOf l s r % s = r := by
  unfold firstOf
  have e : (l + (r - l) % s) % s = (l + (r - l)) % s := by rw [Int.add_emod, Int.emod_emod_of_dvd _ (Int.dvd_refl s), ← Int.add_emod]
  rw [e, show l + (r - l) = r by omega]
  exact Int.emod_eq_of_lt h0 h1
theorem lanes_nonneg (l h s r : Int) : 0 ≤ lanesOf l h s r := Int.le_max_left _ _
/-- a number below the count of lanes names a lane below high -/
theorem lanes_lt {l h s r k : Int} (hs : 0 < s) (hk : 0 ≤ k) : k < lanesOf l h s r ↔ firstOf l s r + s * k < h := by
  unfold lanesOf
  have e : (k < max 0 ((h - firstOf l s r + s - 1) / s)) ↔ k < (h - firstOf l s r + s - 1) / s := by
    constructor
    · intro z
      rcases Int.le_total 0 ((h - firstOf l s r + s - 1) / s) with q | q
      · rwa [Int.max_eq_right q] at z
      · rw [Int.max_eq_left q] at z; omega
    · intro z
      exact Int.lt_of_lt_of_le z (Int.le_max_right _ _)
  rw [e]
  have e2 : k < (h - firstOf l s r + s - 1) / s ↔ (k + 1) * s ≤ h - firstOf l s r + s - 1 := by
    rw [← Int.le_ediv_iff_mul_le hs]
    omega
  rw [e2, Int.add_mul, Int.one_mul, Int.mul_comm k s]
  omega
theorem lane_iff {l h s r x : Int} (hs : 0 < s) (h0 : 0 ≤ r) (h1 : r < s) : (l ≤ x ∧ x < h ∧ x % s = r) ↔ ∃ k, 0 ≤ k ∧ k < lanesOf l h s r ∧ x = firstOf l s r + s * k := by
  have fm := first_mod (l := l) hs h0 h1
  constructor
  · rintro ⟨a, b, c⟩
    have d : s ∣ x - firstOf l s r := by
      refine Int.dvd_of_emod_eq_zero ?_
      rw [Int.sub_emod, c, fm, Int.sub_self, Int.zero_emod]
    obtain ⟨k, hk⟩ := d
    have ex : x = firstOf l s r + s * k := by omega
    have k0 : 0 ≤ k := by
      have f1 := first_lt (l := l) (r := r) hs
      rcases Int.lt_or_le k 0 with z | z
      · have : s * k ≤ s * (-1) := Int.mul_le_mul_of_nonneg_left (by omega) (by omega)
        omega
      · exact z
    exact ⟨k, k0, (lanes_lt hs k0).mpr (by omega), ex⟩
  · rintro ⟨k, k0, k1, ex⟩
    have q := (lanes_lt hs k0).mp k1
    have f1 := first_ge (l := l) (r := r) hs
    have m : 0 ≤ s * k := Int.mul_nonneg (by omega) k0
    refine ⟨by omega, by omega, ?_⟩
    rw [ex, Int.add_mul_emod_self_left, fm]
/-! ### ascending lists -/
theorem asc_ext : ∀ {a b : List Int}, a.Pairwise (· < ·) → b.Pairwise (· < ·) → (∀ x, x ∈ a ↔ x ∈ b) → a = b
  | [], [], _, _, _ => rfl
  | [], y :: b, _, _, h => absurd ((h y).mpr List.mem_cons_self) (by simp)
  | x :: a, [], _, _, h => absurd ((h x).mp List.mem_cons_self) (by simp)
  | x :: a, y :: b, ha, hb, h => by
    rw [List.pairwise_cons] at ha hb
    have e : x = y := by
      rcases List.mem_cons.mp ((h x).mp List.mem_cons_self) with q | q
      · exact q
      · rcases List.mem_cons.mp ((h y).mpr List.mem_cons_self) with z | z
        · exact z.symm
        · have h1 := hb.1 x q
          have h2 := ha.1 y z
          omega
    subst e
    refine congrArg (x :: ·) (asc_ext ha.2 hb.2 fun z => ?_)
    constructor
    · intro hz
      rcases List.mem_cons.mp ((h z).mp (List.mem_cons_of_mem _ hz)) with q | q
      · have := ha.1 z hz; omega
      · exact q
    · intro hz
      rcases List.mem_cons.mp ((h z).mpr (List.mem_cons_of_mem _ hz)) with q | q
      · have := hb.1 z hz; omega
      · exact q
/-- lo, lo + 1, .. below hi -/
def seqI (lo hi : Int) : List Int := (List.range (hi - lo).toNat).map fun i : Nat => lo + i
theorem mem_seqI {lo hi x : Int} : x ∈ seqI lo hi ↔ lo ≤ x ∧ x < hi := by
  unfold seqI
  rw [List.mem_map]
  constructor
  · rintro ⟨i, hi', rfl⟩
    rw [List.mem_range] at hi'
    omega
  · rintro ⟨h1, h2⟩
    exact ⟨(x - lo).toNat, by rw [List.mem_range]; omega, by omega⟩
theorem seqI_asc (lo hi : Int) : (seqI lo hi).Pairwise (· < ·) := by
  unfold seqI
  rw [List.pairwise_map]
  refine List.Pairwise.imp ?_ List.pairwise_lt_range
  intro a b h
  omega
/-- the lanes of a guard, found one by one -/
def listed (l h s r : Int) : List Int := (seqI l h).filter fun x => decide (x % s = r)
theorem mem_listed {l h s r x : Int} : x ∈ listed l h s r ↔ l ≤ x ∧ x < h ∧ x % s = r := by
  unfold listed
  rw [List.mem_filter, mem_seqI, decide_eq_true_eq]
  exact ⟨fun h => ⟨h.1.1, h.1.2, h.2⟩, fun h => ⟨⟨h.1, h.2.1⟩, h.2.2⟩⟩
theorem listed_asc (l h s r : Int) : (listed l h s r).Pairwise (· < ·) := (seqI_asc l h).filter _
/-- the lanes by their numbers -/
def numbered (l h s r : Int) : List Int := (List.range (lanesOf l h s r).toNat).map fun k : Nat => firstOf l s r + s * k
theorem listed_eq {l h s r : Int} (hs : 0 < s) (h0 : 0 ≤ r) (h1 : r < s) : listed l h s r = numbered l h s r := by
  refine asc_ext (listed_asc _ _ _ _) ?_ fun x => ?_
  · unfold numbered
    rw [List.pairwise_map]
    refine List.Pairwise.imp ?_ List.pairwise_lt_range
    intro a b hab
    have : s * (a : Int) < s * (b : Int) := Int.mul_lt_mul_of_pos_left (by omega) hs
    omega
  · rw [mem_listed, lane_iff hs h0 h1]
    unfold numbered
    rw [List.mem_map]
    constructor
    · rintro ⟨k, a, b, rfl⟩
      exact ⟨k.toNat, by rw [List.mem_range]; omega, by rw [Int.toNat_of_nonneg a]⟩
    · rintro ⟨k, a, rfl⟩
      rw [List.mem_range] at a
      exact ⟨k, by omega, by omega, rfl⟩
theorem listed_len {l h s r : Int} (hs : 0 < s) (h0 : 0 ≤ r) (h1 : r < s) : ((listed l h s r).length : Int) = lanesOf l h s r := by
  rw [listed_eq hs h0 h1, numbered, List.length_map, List.length_range]
  exact Int.toNat_of_nonneg (lanes_nonneg _ _ _ _)
/-! ### common lanes -/
theorem both_dvd {s1 s2 g q q2 x y d : Int} (hg : g ≠ 0) (e1 : s1 = g * q) (e2 : s2 = g * q2) (bz : s1 * x + s2 * y = g) : (s1 ∣ d ∧ s2 ∣ d) ↔ q * s2 ∣ d := by
  constructor
  · rintro ⟨⟨u, hu⟩, ⟨v, hv⟩⟩
    refine ⟨v * x + u * y, ?_⟩
    have key : g * d = g * (q * s2 * (v * x + u * y)) := by
      have a1 : d * (s1 * x) = s2 * v * (s1 * x) := by rw [← hv]
      have a2 : d * (s2 * y) = s1 * u * (s2 * y) := by rw [← hu]
      have a3 : g * d = d * (s1 * x) + d * (s2 * y) := by rw [← Int.mul_add, bz, Int.mul_comm]
      rw [a3, a1, a2, e1]
      grind
    exact Int.eq_of_mul_eq_mul_left hg key
  · rintro ⟨u, hu⟩
    exact ⟨⟨q2 * u, by rw [hu, e1, e2]; grind⟩, ⟨q * u, by rw [hu]; grind⟩⟩
theorem dvd_of_emod {s x y : Int} (h : x % s = y % s) : s ∣ x - y := by
  refine Int.dvd_of_emod_eq_zero ?_
  rw [Int.sub_emod, h, Int.sub_self, Int.zero_emod]
theorem emod_of_dvd {s x y : Int} (h : s ∣ x - y) : x % s = y % s := by
  obtain ⟨k, hk⟩ := h
  have : x = y + s * k := by omega
  rw [this, Int.add_mul_emod_self_left]
/-- the remainder of the common lanes -/
def restOf (s1 s2 r1 r2 g q x : Int) : Int := (r1 + s1 * ((r2 - r1) / g * x)) % (q * s2)
theorem rest_ok {s1 s2 r1 r2 g q q2 x y : Int} (hg : 0 < g) (h1 : 0 < s1) (h2 : 0 < s2) (e1 : s1 = g * q) (e2 : s2 = g * q2) (bz : s1 * x + s2 * y = g) (hd : g ∣ r2 - r1) : s1 ∣ restOf s1 s2 r1 r2 g q x - r1 ∧ s2 ∣ restOf s1 s2 r1 r2 g q x - r2 := by
  obtain ⟨t, ht⟩ := hd
  have et : (r2 - r1) / g = t := by rw [ht, Int.mul_ediv_cancel_left _ (by omega)]
  unfold restOf
  rw [et]
  obtain ⟨c, hc⟩ : ∃ c, (r1 + s1 * (t * x)) % (q * s2) = r1 + s1 * (t * x) - q * s2 * c := ⟨(r1 + s1 * (t * x)) / (q * s2), by have := Int.emod_add_mul_ediv (r1 + s1 * (t * x)) (q * s2); omega⟩
  rw [hc]
  constructor
  · exact ⟨t * x - q2 * c, by rw [e1, e2]; grind⟩
  · refine ⟨- (t * y) - q * c, ?_⟩
    have a : s1 * (t * x) = t * (g - s2 * y) := by rw [← bz]; grind
    have b : r2 = r1 + g * t := by omega
    rw [a, b]
    grind
theorem meet_iff {s1 s2 r1 r2 g q q2 x y z : Int} (hg : 0 < g) (h1 : 0 < s1) (h2 : 0 < s2) (e1 : s1 = g * q) (e2 : s2 = g * q2) (bz : s1 * x + s2 * y = g) (a1 : 0 ≤ r1) (b1 : r1 < s1) (a2 : 0 ≤ r2) (b2 : r2 < s2) (hd : g ∣ r2 - r1) :
    (z % s1 = r1 ∧ z % s2 = r2) ↔ z % (q * s2) = restOf s1 s2 r1 r2 g q x := by
  obtain ⟨k1, k2⟩ := rest_ok hg h1 h2 e1 e2 bz hd
  have em1 : r1 % s1 = r1 := Int.emod_eq_of_lt a1 b1
  have em2 : r2 % s2 = r2 := Int.emod_eq_of_lt a2 b2
  have emr : restOf s1 s2 r1 r2 g q x % (q * s2) = restOf s1 s2 r1 r2 g q x := by unfold restOf; rw [Int.emod_emod_of_dvd _ (Int.dvd_refl _)]
  constructor
  · rintro ⟨c1, c2⟩
    rw [← emr]
    refine emod_of_dvd ((both_dvd (by omega) e1 e2 bz).mp ⟨?_, ?_⟩)
    · have d1 := dvd_of_emod (c1.trans em1.symm)
      have := Int.dvd_sub d1 k1
      rwa [show z - r1 - (restOf s1 s2 r1 r2 g q x - r1) = z - restOf s1 s2 r1 r2 g q x by omega] at this
    · have d1 := dvd_of_emod (c2.trans em2.symm)
      have := Int.dvd_sub d1 k2
      rwa [show z - r2 - (restOf s1 s2 r1 r2 g q x - r2) = z - restOf s1 s2 r1 r2 g q x by omega] at this
  · intro c
    rw [← emr] at c
    obtain ⟨d1, d2⟩ := (both_dvd (by omega) e1 e2 bz).mpr (dvd_of_emod c)
    constructor
    · rw [← em1]
      refine emod_of_dvd ?_
      have := Int.dvd_add d1 k1
      rwa [show z - restOf s1 s2 r1 r2 g q x + (restOf s1 s2 r1 r2 g q x - r1) = z - r1 by omega] at this
    · rw [← em2]
      refine emod_of_dvd ?_
      have := Int.dvd_add d2 k2
      rwa [show z - restOf s1 s2 r1 r2 g q x + (restOf s1 s2 r1 r2 g q x - r2) = z - r2 by omega] at this
theorem meet_none {s1 s2 r1 r2 g q q2 z : Int} (e1 : s1 = g * q) (e2 : s2 = g * q2) (a1 : 0 ≤ r1) (b1 : r1 < s1) (a2 : 0 ≤ r2) (b2 : r2 < s2) (hd : ¬ g ∣ r2 - r1) : ¬ (z % s1 = r1 ∧ z % s2 = r2) := by
  rintro ⟨c1, c2⟩
  apply hd
  have d1 := dvd_of_emod (c1.trans (Int.emod_eq_of_lt a1 b1).symm)
  have d2 := dvd_of_emod (c2.trans (Int.emod_eq_of_lt a2 b2).symm)
  have g1 : g ∣ z - r1 := Int.dvd_trans ⟨q, e1⟩ d1
  have g2 : g ∣ z - r2 := Int.dvd_trans ⟨q2, e2⟩ d2
  have := Int.dvd_sub g1 g2
  rwa [show z - r1 - (z - r2) = r2 - r1 by omega] at this
/-! ### bounds by digits -/
theorem log_lt {x : Int} {n : Nat} (h : x.natAbs < 2 ^ n) (hn : 0 < n) : x.natAbs.log2 < n := by
  by_cases hz : x.natAbs = 0
  · rw [hz]; exact hn
  · exact (Nat.log2_lt hz).mpr h
theorem okMul_of {i j : Int} {a b : Nat} (hi : i.natAbs < 2 ^ a) (hj : j.natAbs < 2 ^ b) (ha : 0 < a) (hb : 0 < b) (h : a + b ≤ 1000000) : PL.okMul i j = true := by
  unfold PL.okMul
  have := log_lt hi ha
  have := log_lt hj hb
  exact decide_eq_true (by omega)
theorem okDiv_of {j : Int} {b : Nat} (h0 : j ≠ 0) (hj : j.natAbs < 2 ^ b) (hb : 0 < b) (h : b ≤ 9000) : PL.okDiv j = true := by
  unfold PL.okDiv
  have := log_lt hj hb
  exact decide_eq_true ⟨h0, by omega⟩
end PN

/-! PS: what the defs of guards.py answer. -/
namespace PM
open PySem PySem.Spec PyProof.Rows L2 PL PN
theorem at0 (a : PV) (t : List PV) : atI (a :: t) 0 = some a := by simp [atI, ixN]
theorem at1 (a b : PV) (t : List PV) : atI (a :: b :: t) 1 = some b := by simp [atI, ixN]; rw [if_pos (by omega)]; rfl
theorem at2 (a b c : PV) (t : List PV) : atI (a :: b :: c :: t) 2 = some c := by simp [atI, ixN]; rw [if_pos (by omega)]; rfl
theorem at3 (a b c d : PV) (t : List PV) : atI (a :: b :: c :: d :: t) 3 = some d := by simp [atI, ixN]; rw [if_pos (by omega)]; rfl
local macro_rules | `(tactic| walk_at "ev") => `(tactic| simp only [mOf, endF, start0, gSeq, gNop, gAsg, gRet, gRetO, gAsgO, gDrop, gIf, gOpt, gPar, gPar3, gAug, aName, asNil, asCons, aTup, aLst, setV, setO, eVar, eC, eBin, eUn, eTup, aNil, aCons, oLst, frz, eCall, oCall, avN, avK, permL, lNil, lPv, lSl, tOf, tTru, tNt, tAn, tOrr, eIf, eAn, eOr, eNt, eChain, eCallB, eIxM, gSetIx, getM, pTru, pAdd, pSub, pMul, pFdiv, pMod, pPow, pNeg, pLt, pLe, pGt, pGe, pIs, pIsNot, pAddI, pIx, pLen, pAbs, pMax2, pMin2, Res.bind_ok, Res.bind_ex, Res.bind_stuck, Res.fl_ok, Res.fl_ex, Res.fl_stuck, Res.opt_some, Res.opt_none, lowerA, keyOf, getK, getAll, setAll, setK, distinct, List.map_cons, List.map_nil, List.length_cons, List.length_nil, List.replicate, List.cons_append, List.nil_append, List.append_nil, List.getElem?_cons_zero, List.getElem?_cons_succ, List.getElem?_nil, List.set_cons_zero, List.set_cons_succ, List.filterMap_cons, List.filterMap_nil, Option.bind_some, Option.map_some, Option.elim_some, if_true, if_false, Nat.reduceAdd, Nat.reduceSub, Nat.reduceEqDiff, Nat.reduceLeDiff, ↓reduceIte, Bool.false_eq_true, at0, at1, at2, at3, pEq, pNe, eqB_int, Option.some.injEq, decide_true, decide_false, not_true_eq_false, not_false_eq_true, Bool.and_true, ne_eq, reduceCtorEq, Bool.true_eq_false, Bool.not_true, Bool.not_false])
/-- a guard's tuple -/
abbrev gt (l h s r : Int) : PV := .tup [.int l, .int h, .int s, .int r]
theorem e_first_of (l h s r : Int) (hs : 0 < s) : m_first_of [.val (gt l h s r)] [] = .ok (.int (firstOf l s r)) [] := by
  unfold m_first_of g_first_of
  walk_at "ev"
  rw [if_pos (by omega)]
  simp only [Res.opt_some, Res.bind_ok, Res.fl_ok, Int.fmod_eq_emod_of_nonneg _ (show 0 ≤ s by omega), firstOf]
theorem max_if (a b : Int) : (if b > a then b else a) = max a b := by split <;> omega
theorem e_lanes_of (l h s r : Int) (hs : 0 < s) (hd : okDiv s = true) : m_lanes_of [.val (gt l h s r)] [] = .ok (.int (lanesOf l h s r)) [] := by
  unfold m_lanes_of g_lanes_of
  walk_at "ev"
  simp only [e_first_of l h s r hs]
  walk_at "ev"
  rw [if_pos hd]
  walk_at "ev"
  rw [Int.fdiv_eq_ediv_of_nonneg _ (by omega)]
  unfold lanesOf
  congr 1
  congr 1
  omega
theorem e_lane_at (l h s r k : Int) (hs : 0 < s) (hm : okMul s k = true) : m_lane_at [.val (gt l h s r), .val (.int k)] [] = .ok (.int (firstOf l s r + s * k)) [] := by
  unfold m_lane_at g_lane_at
  walk_at "ev"
  simp only [e_first_of l h s r hs]
  walk_at "ev"
  simp only [if_pos hm]
  walk_at "ev"
/-- is x a lane -/
def isLane (l h s r x : Int) : Bool := decide (l ≤ x ∧ x < h ∧ x % s = r)
theorem e_has (l h s r x : Int) (hs : 0 < s) : m_has [.val (gt l h s r), .val (.int x)] [] = .ok (.bl (isLane l h s r x)) [] := by
  unfold m_has g_has
  walk_at "ev"
  by_cases h1 : l ≤ x <;> by_cases h2 : x < h <;> by_cases h3 : x % s = r <;> simp [h1, h2, h3, isLane, pEq, eqB_int, show s ≠ 0 by omega, Int.fmod_eq_emod_of_nonneg _ (show 0 ≤ s by omega), pTru]
def isGuard (l h s r : Int) : Bool := decide (0 ≤ l ∧ l ≤ h ∧ 0 ≤ r ∧ r < s)
theorem e_is_guard (l h s r : Int) : m_is_guard [.val (gt l h s r)] [] = .ok (.bl (isGuard l h s r)) [] := by
  unfold m_is_guard g_is_guard
  walk_at "ev"
  by_cases h1 : 0 ≤ l <;> by_cases h2 : l ≤ h <;> by_cases h3 : 0 ≤ r <;> by_cases h4 : r < s <;> simp [h1, h2, h3, h4, isGuard, pTru]
theorem e_check_guard (l h s r : Int) (hg : isGuard l h s r = true) : m_check_guard [.val (gt l h s r)] [] = .ok .non [] := by
  unfold m_check_guard g_check_guard
  walk_at "ev"
  simp only [e_is_guard, hg]
  walk_at "ev"
theorem guard_iff {l h s r : Int} : isGuard l h s r = true ↔ 0 ≤ l ∧ l ≤ h ∧ 0 ≤ r ∧ r < s := by simp [isGuard]
theorem e_count (l h s r : Int) (hg : isGuard l h s r = true) (hd : okDiv s = true) : m_count_lanes [.val (gt l h s r)] [] = .ok (.int (lanesOf l h s r)) [] := by
  have g := guard_iff.mp hg
  unfold m_count_lanes g_count_lanes
  walk_at "ev"
  simp only [e_check_guard l h s r hg]
  walk_at "ev"
  simp only [e_lanes_of l h s r (by omega) hd]
  walk_at "ev"
theorem e_has_lane (l h s r x : Int) (hg : isGuard l h s r = true) : m_has_lane [.val (gt l h s r), .val (.int x)] [] = .ok (.bl (isLane l h s r x)) [] := by
  have g := guard_iff.mp hg
  unfold m_has_lane g_has_lane
  walk_at "ev"
  simp only [e_check_guard l h s r hg]
  walk_at "ev"
  simp only [e_has l h s r x (by omega)]
  walk_at "ev"
theorem e_nth (l h s r k : Int) (hg : isGuard l h s r = true) (hd : okDiv s = true) (h0 : 0 ≤ k) (h1 : k < lanesOf l h s r) (hm : okMul s k = true) : m_nth_lane [.val (gt l h s r), .val (.int k)] [] = .ok (.int (firstOf l s r + s * k)) [] := by
  have g := guard_iff.mp hg
  unfold m_nth_lane g_nth_lane
  walk_at "ev"
  simp only [e_check_guard l h s r hg]
  walk_at "ev"
  simp only [decide_eq_true h0, e_lanes_of l h s r (show 0 < s by omega) hd]
  walk_at "ev"
  simp only [decide_eq_true h1]
  walk_at "ev"
  simp only [e_lane_at l h s r k (by omega) hm]
  walk_at "ev"
end PM

/-! PS2: bezout, meeting, and what the laws draw. -/
namespace PM
open PySem PySem.Spec PyProof.Rows L2 PL PN
local macro_rules | `(tactic| walk_at "ev") => `(tactic| simp only [mOf, endF, start0, gSeq, gNop, gAsg, gRet, gRetO, gAsgO, gDrop, gIf, gOpt, gPar, gPar3, gAug, aName, asNil, asCons, aTup, aLst, setV, setO, eVar, eC, eBin, eUn, eTup, aNil, aCons, oLst, frz, eCall, oCall, avN, avK, permL, lNil, lPv, lSl, tOf, tTru, tNt, tAn, tOrr, eIf, eAn, eOr, eNt, eChain, eCallB, eIxM, gSetIx, getM, pTru, pAdd, pSub, pMul, pFdiv, pMod, pPow, pNeg, pLt, pLe, pGt, pGe, pIs, pIsNot, pAddI, pIx, pLen, pAbs, pMax2, pMin2, Res.bind_ok, Res.bind_ex, Res.bind_stuck, Res.fl_ok, Res.fl_ex, Res.fl_stuck, Res.opt_some, Res.opt_none, lowerA, keyOf, getK, getAll, setAll, setK, distinct, List.map_cons, List.map_nil, List.length_cons, List.length_nil, List.replicate, List.cons_append, List.nil_append, List.append_nil, List.getElem?_cons_zero, List.getElem?_cons_succ, List.getElem?_nil, List.set_cons_zero, List.set_cons_succ, List.filterMap_cons, List.filterMap_nil, Option.bind_some, Option.map_some, Option.elim_some, if_true, if_false, Nat.reduceAdd, Nat.reduceSub, Nat.reduceEqDiff, Nat.reduceLeDiff, ↓reduceIte, Bool.false_eq_true, at0, at1, at2, at3, pEq, pNe, eqB_int, Option.some.injEq, decide_true, decide_false, not_true_eq_false, not_false_eq_true, Bool.and_true, ne_eq, reduceCtorEq, Bool.true_eq_false, Bool.not_true, Bool.not_false])
noncomputable def l_bezout_1a : Stt → Res Bool := (tOf (eBin pNe (eVar 3) (eC (.int 0))))
noncomputable def l_bezout_1b : Stt → Fl := (gSeq (gAsg (eBin pFdiv (eVar 2) (eVar 3)) (aName 6)) (gSeq (gPar 2 3 (aCons (eVar 3) (aCons (eBin pSub (eVar 2) (eBin pMul (eVar 6) (eVar 3))) aNil))) (gSeq (gPar 4 5 (aCons (eVar 5) (aCons (eBin pSub (eVar 4) (eBin pMul (eVar 6) (eVar 5))) aNil))) gNop)))
theorem g_bezout_eq : g_bezout = (gSeq (gAsg (eTup (aCons (eVar 0) (aCons (eVar 1) (aCons (eC (.int 1)) (aCons (eC (.int 0)) aNil))))) (aTup 4 (asCons (aName 2) (asCons (aName 3) (asCons (aName 4) (asCons (aName 5) asNil)))))) (gSeq (gWhile l_bezout_1a l_bezout_1b) (gSeq (gRet (eIf (tOf (eBin pGe (eVar 2) (eC (.int 0)))) (eTup (aCons (eVar 2) (aCons (eVar 4) aNil))) (eTup (aCons (eUn pNeg (eVar 2)) (aCons (eUn pNeg (eVar 4)) aNil))))) gNop))) := rfl
noncomputable def l__law_source_1b : PV → Stt → Option Stt := (aName 3)
noncomputable def l__law_source_1c : Stt → Fl := (gSeq (gIf (tOf (eBin pGe (eCallB pAbs (aCons (eVar 3) aNil)) (eBin pPow (eC (.int 10)) (eC (.int 18))))) (gSeq (gAsg (eBin pAdd (eBin pMul (eVar 1) (eBin pPow (eC (.int 10)) (eC (.int 60)))) (eBin pMod (eCallB pAbs (aCons (eVar 3) aNil)) (eBin pPow (eC (.int 10)) (eC (.int 60))))) (aName 1)) gNop) gNop) (gSeq (gAsg (eBin pMod (eBin pAdd (eBin pAdd (eBin pMul (eVar 2) (eC (.int 6700417))) (eBin pMod (eVar 3) (eC (.int 2305843009213693921)))) (eC (.int 13))) (eC (.int 2305843009213693951))) (aName 2)) gNop))
theorem g__law_source_eq : g__law_source = (gSeq (gAsg (eTup (aCons (eC (.int 0)) (aCons (eC (.int 7368787)) aNil))) (aTup 2 (asCons (aName 1) (asCons (aName 2) asNil)))) (gSeq (gFor (iAny (eSl (eVar 0) pNo (pSo (eC (.int 63))))) l__law_source_1b l__law_source_1c) (gSeq (gRetO (oLst (aCons (eVar 1) (aCons (eVar 2) (aCons (eC (.int 0)) aNil))))) gNop))) := rfl
/-- what holds in the loop of bezout -/
structure BzInv (a b f s x y : Int) : Prop where
  f0 : 0 < f
  s0 : 0 ≤ s
  dv : ∀ d, d ∣ f → d ∣ s → d ∣ a ∧ d ∣ b
  u1 : ∃ u, f = a * x + b * u
  u2 : ∃ u, s = a * y + b * u
  sg : ∃ e X Y : Int, (e = 1 ∨ e = -1) ∧ x = e * X ∧ y = -(e * Y) ∧ 0 ≤ X ∧ 0 ≤ Y ∧ X ≤ b ∧ X * s + Y * f = b
theorem BzInv.next {a b f s x y : Int} (i : BzInv a b f s x y) (hs : 0 < s) : BzInv a b s (f - f / s * s) y (x - f / s * y) := by
  have hm : f - f / s * s = f % s := by rw [Int.emod_def, Int.mul_comm]
  have t0 : 0 ≤ f / s := Int.ediv_nonneg (Int.le_of_lt i.f0) i.s0
  refine ⟨hs, ?_, ?_, i.u2, ?_, ?_⟩
  · rw [hm]; exact Int.emod_nonneg _ (by omega)
  · intro d h1 h2
    refine i.dv d ?_ h1
    have : f = (f - f / s * s) + f / s * s := by omega
    rw [this]
    exact Int.dvd_add h2 ((show d ∣ f / s * s from Int.dvd_trans h1 (Int.dvd_mul_left _ _)))
  · obtain ⟨u, hu⟩ := i.u1
    obtain ⟨v, hv⟩ := i.u2
    refine ⟨u - f / s * v, ?_⟩
    generalize f / s = t at *
    subst hu hv
    grind
  · obtain ⟨e, X, Y, he, hx, hy, hX, hY, hb, hq⟩ := i.sg
    refine ⟨-e, Y, X + f / s * Y, by omega, by grind, ?_, hY, ?_, ?_, ?_⟩
    · generalize f / s = t at *
      subst hx hy
      grind
    · have := Int.mul_nonneg t0 hY; omega
    · have h1 : 0 ≤ X * s := Int.mul_nonneg hX i.s0
      have h2 : Y * 1 ≤ Y * f := Int.mul_le_mul_of_nonneg_left i.f0 hY
      omega
    · generalize f / s = t at *
      grind
theorem bz_loop (a b : Int) (hb : b.natAbs < 2 ^ 4000) : ∀ (n : Nat) (f s x y : Int) (w : Option SV), s.toNat < n → f.natAbs < 2 ^ 4000 → s.natAbs < 2 ^ 4000 → BzInv a b f s x y →
    ∃ g x' y' w', whileN l_bezout_1a l_bezout_1b n ⟨[some (.val (.int a)), some (.val (.int b)), some (.val (.int f)), some (.val (.int s)), some (.val (.int x)), some (.val (.int y)), w], []⟩ = .nx ⟨[some (.val (.int a)), some (.val (.int b)), some (.val (.int g)), some (.val (.int 0)), some (.val (.int x')), some (.val (.int y')), w'], []⟩ ∧ BzInv a b g 0 x' y' ∧ g.natAbs < 2 ^ 4000
  | 0, f, s, x, y, w, h, _, _, _ => by omega
  | n + 1, f, s, x, y, w, h, hf, hs, i => by
    have s0 := i.s0
    have f0 := i.f0
    unfold whileN
    by_cases z : s = 0
    · subst z
      refine ⟨f, x, y, w, ?_, i, hf⟩
      unfold l_bezout_1a
      walk_at "ev"
      simp
    · have hd : okDiv s = true := okDiv_of z hs (by decide) (by decide)
      have f1 : f / s ≤ f := Int.ediv_le_self s (Int.le_of_lt f0)
      have t0 : 0 ≤ f / s := Int.ediv_nonneg (Int.le_of_lt f0) s0
      have e1 : f.fdiv s = f / s := Int.fdiv_eq_ediv_of_nonneg _ s0
      obtain ⟨e, X, Y, he, hx, hy, hX, hY, hXb, hq⟩ := i.sg
      have hY2 : Y ≤ b := by
        have h1 : 0 ≤ X * s := Int.mul_nonneg hX i.s0
        have h2 : Y * 1 ≤ Y * f := Int.mul_le_mul_of_nonneg_left i.f0 hY
        omega
      have hyb : y.natAbs < 2 ^ 4000 := by
        have : y.natAbs ≤ b.natAbs := by rcases he with rfl | rfl <;> omega
        omega
      have m1 : okMul (f / s) s = true := okMul_of (a := 4000) (b := 4000) (by omega) hs (by decide) (by decide) (by decide)
      have m2 : okMul (f / s) y = true := okMul_of (a := 4000) (b := 4000) (by omega) hyb (by decide) (by decide) (by decide)
      have i2 := i.next (by omega)
      have hm : f - f / s * s = f % s := by rw [Int.emod_def, Int.mul_comm]
      have hl : f % s < s := Int.emod_lt_of_pos _ (by omega)
      have hn : 0 ≤ f % s := Int.emod_nonneg _ (by omega)
      obtain ⟨g, x', y', w', k1, k2, k3⟩ := bz_loop a b hb n s (f - f / s * s) y (x - f / s * y) (some (.val (.int (f / s)))) (by rw [hm]; omega) hs (by rw [hm]; omega) i2
      refine ⟨g, x', y', w', ?_, k2, k3⟩
      rw [← k1]
      unfold l_bezout_1a l_bezout_1b
      walk_at "ev"
      simp only [beq_eq_false_iff_ne.mpr z, if_pos hd, e1]
      walk_at "ev"
      simp only [if_pos m1]
      walk_at "ev"
      simp only [if_pos m2]
      walk_at "ev"
theorem e_bezout (a b : Int) (ha : 0 < a) (hb : 0 < b) (ha2 : a.natAbs < 2 ^ 4000) (hb2 : b.natAbs < 2 ^ 4000) : ∃ g x q q2 y, m_bezout [.val (.int a), .val (.int b)] [] = .ok (.tup [.int g, .int x]) [] ∧ 0 < g ∧ g.natAbs < 2 ^ 4000 ∧ x.natAbs < 2 ^ 4000 ∧ a = g * q ∧ b = g * q2 ∧ a * x + b * y = g := by
  have i0 : BzInv a b a b 1 0 := ⟨ha, Int.le_of_lt hb, fun d h1 h2 => ⟨h1, h2⟩, ⟨0, by omega⟩, ⟨1, by omega⟩, ⟨1, 1, 0, .inl rfl, by omega, by omega, by omega, by omega, by omega, by omega⟩⟩
  obtain ⟨g, x, y, w, k1, k2, k3⟩ := bz_loop a b hb2 (b.toNat + 1) a b 1 0 none (by omega) ha2 hb2 i0
  obtain ⟨d1, d2⟩ := k2.dv g (Int.dvd_refl g) (Int.dvd_zero g)
  obtain ⟨q, hq⟩ := d1
  obtain ⟨q2, hq2⟩ := d2
  obtain ⟨u, hu⟩ := k2.u1
  have g0 := k2.f0
  obtain ⟨e, X, Y, he, hx, hy, hX, hY, hXb, hz⟩ := k2.sg
  refine ⟨g, x, q, q2, u, ?_, g0, k3, ?_, hq, hq2, hu.symm⟩
  · unfold m_bezout
    rw [g_bezout_eq]
    walk_at "ev"
    rw [gWhile_eq k1 (by simp)]
    walk_at "ev"
    simp only [decide_eq_true (show (g : Int) ≥ 0 by omega)]
    walk_at "ev"
  · have : x.natAbs ≤ b.natAbs := by rcases he with rfl | rfl <;> omega
    omega
end PM

/-! PS3: meeting, met, and what the laws draw. -/
namespace PM
open PySem PySem.Spec PyProof.Rows L2 PL PN
theorem ix30 : ixN 3 0 = some 0 := by decide
theorem ix31 : ixN 3 1 = some 1 := by decide
theorem ix32 : ixN 3 2 = some 2 := by decide
local macro_rules | `(tactic| walk_at "ev") => `(tactic| try simp only [mOf, endF, start0, gSeq, gNop, gAsg, gRet, gRetO, gAsgO, gDrop, gIf, gOpt, gPar, gPar3, gAug, aName, asNil, asCons, aTup, aLst, setV, setO, eVar, eC, eBin, eUn, eTup, aNil, aCons, oLst, frz, eCall, oCall, avN, avK, permL, lNil, lPv, lSl, tOf, tTru, tNt, tAn, tOrr, eIf, eAn, eOr, eNt, eChain, eCallB, eIxM, gSetIx, getM, pTru, pAdd, pSub, pMul, pFdiv, pMod, pPow, pNeg, pLt, pLe, pGt, pGe, pIs, pIsNot, pAddI, pIx, pLen, pAbs, pMax2, pMin2, Res.bind_ok, Res.bind_ex, Res.bind_stuck, Res.fl_ok, Res.fl_ex, Res.fl_stuck, Res.opt_some, Res.opt_none, lowerA, keyOf, getK, getAll, setAll, setK, distinct, List.map_cons, List.map_nil, List.length_cons, List.length_nil, List.replicate, List.cons_append, List.nil_append, List.append_nil, List.getElem?_cons_zero, List.getElem?_cons_succ, List.getElem?_nil, List.set_cons_zero, List.set_cons_succ, List.filterMap_cons, List.filterMap_nil, Option.bind_some, Option.map_some, Option.elim_some, if_true, if_false, Nat.reduceAdd, Nat.reduceSub, Nat.reduceEqDiff, Nat.reduceLeDiff, ↓reduceIte, Bool.false_eq_true, at0, at1, at2, at3, pEq, pNe, eqB_int, Option.some.injEq, decide_true, decide_false, not_true_eq_false, not_false_eq_true, Bool.and_true, ne_eq, reduceCtorEq, Bool.true_eq_false, Bool.not_true, Bool.not_false])
local macro_rules | `(tactic| walk_at "evs") => `(tactic| simp only [*, mOf, endF, start0, gSeq, gNop, gAsg, gRet, gRetO, gAsgO, gDrop, gIf, gOpt, gPar, gPar3, gAug, aName, asNil, asCons, aTup, aLst, setV, setO, eVar, eC, eBin, eUn, eTup, aNil, aCons, oLst, frz, eCall, oCall, avN, avK, permL, lNil, lPv, lSl, tOf, tTru, tNt, tAn, tOrr, eIf, eAn, eOr, eNt, eChain, eCallB, eIxM, gSetIx, getM, pTru, pAdd, pSub, pMul, pFdiv, pMod, pPow, pNeg, pLt, pLe, pGt, pGe, pIs, pIsNot, pAddI, pIx, pLen, pAbs, pMax2, pMin2, Res.bind_ok, Res.bind_ex, Res.bind_stuck, Res.fl_ok, Res.fl_ex, Res.fl_stuck, Res.opt_some, Res.opt_none, lowerA, keyOf, getK, getAll, setAll, setK, distinct, List.map_cons, List.map_nil, List.length_cons, List.length_nil, List.replicate, List.cons_append, List.nil_append, List.append_nil, List.getElem?_cons_zero, List.getElem?_cons_succ, List.getElem?_nil, List.set_cons_zero, List.set_cons_succ, List.filterMap_cons, List.filterMap_nil, Option.bind_some, Option.map_some, Option.elim_some, if_true, if_false, Nat.reduceAdd, Nat.reduceSub, Nat.reduceEqDiff, Nat.reduceLeDiff, ↓reduceIte, Bool.false_eq_true, at0, at1, at2, at3, pEq, pNe, eqB_int, Option.some.injEq, decide_true, decide_false, not_true_eq_false, not_false_eq_true, Bool.and_true, ne_eq, reduceCtorEq, Bool.true_eq_false, Bool.not_true, Bool.not_false, eq_self, not_true_eq_false, not_false_eq_true, ix30, ix31, ix32])
/-- what meeting answers -/
def MeetIs (l1 h1 s1 r1 l2 h2 s2 r2 : Int) (m : PV) : Prop :=
  (m = .non ∧ ∀ z, max l1 l2 ≤ z → z < min h1 h2 → ¬ (z % s1 = r1 ∧ z % s2 = r2)) ∨
  ∃ t c, m = gt (max l1 l2) (min h1 h2) t c ∧ 0 < t ∧ 0 ≤ c ∧ c < t ∧ t.natAbs < 2 ^ 8000 ∧ (∀ z, (z % s1 = r1 ∧ z % s2 = r2) ↔ z % t = c) ∧ s1 ∣ t ∧ s2 ∣ t ∧ t ≤ s1 * s2 ∧ (∀ d, s1 ∣ d → s2 ∣ d → t ∣ d) ∧ 0 < lanesOf (max l1 l2) (min h1 h2) t c
theorem max_ifs (i j : Int) : (if j > i then j else i) = max i j := by split <;> omega
theorem min_ifs (i j : Int) : (if j < i then j else i) = min i j := by split <;> omega
theorem natAbs_mul_lt {a b : Int} {m n : Nat} (ha : a.natAbs < 2 ^ m) (hb : b.natAbs < 2 ^ n) : (a * b).natAbs < 2 ^ (m + n) := by
  rw [Int.natAbs_mul, Nat.pow_add]
  exact Nat.mul_lt_mul_of_lt_of_lt ha hb
theorem natAbs_ediv_le (a : Int) {g : Int} (hg : 0 < g) : (a / g).natAbs ≤ a.natAbs := by
  rcases Int.le_total 0 a with h | h
  · have h1 := Int.ediv_le_self g h
    have h2 := Int.ediv_nonneg h (Int.le_of_lt hg)
    omega
  · have h1 : a / g ≤ 0 := Int.ediv_le_of_le_mul hg (by omega)
    have h2 : a ≤ a / g := by
      refine (Int.le_ediv_iff_mul_le hg).mpr ?_
      have k : 0 ≤ (-a) * (g - 1) := Int.mul_nonneg (by omega) (by omega)
      have e : (-a) * (g - 1) = a - a * g := by grind
      omega
    omega
theorem e_meeting (l1 h1 s1 r1 l2 h2 s2 r2 : Int) (hs1 : 0 < s1) (hs2 : 0 < s2) (b1 : s1.natAbs < 2 ^ 4000) (b2 : s2.natAbs < 2 ^ 4000) (z1 : 0 ≤ r1) (y1 : r1 < s1) (z2 : 0 ≤ r2) (y2 : r2 < s2) :
    ∃ m, m_meeting [.val (gt l1 h1 s1 r1), .val (gt l2 h2 s2 r2)] [] = .ok m [] ∧ MeetIs l1 h1 s1 r1 l2 h2 s2 r2 m := by
  obtain ⟨g, x, q, q2, y, eb, g0, gb, xb, hq, hq2, bz⟩ := e_bezout s1 s2 hs1 hs2 b1 b2
  have hdg : okDiv g = true := okDiv_of (by omega) gb (by decide) (by decide)
  unfold m_meeting g_meeting
  walk_at "ev"
  simp only [eb]
  walk_at "ev"
  simp only [if_pos (show ¬ g = 0 by omega)]
  walk_at "ev"
  have gf : ∀ a : Int, a.fmod g = a % g := fun a => Int.fmod_eq_emod_of_nonneg _ (by omega)
  have gd : ∀ a : Int, a.fdiv g = a / g := fun a => Int.fdiv_eq_ediv_of_nonneg _ (by omega)
  simp only [gf, gd]
  by_cases hd : (r2 - r1) % g = 0
  · have hdv : g ∣ r2 - r1 := Int.dvd_of_emod_eq_zero hd
    have q0 : 0 < q := by
      rcases Int.lt_or_le 0 q with h | h
      · exact h
      · have : g * q ≤ g * 0 := Int.mul_le_mul_of_nonneg_left h (by omega)
        omega
    have e1 : s1 / g = q := by rw [hq, Int.mul_ediv_cancel_left _ (by omega)]
    have t0 : 0 < q * s2 := Int.mul_pos q0 hs2
    have qb : q.natAbs < 2 ^ 4000 := by have := natAbs_ediv_le s1 g0; rw [e1] at this; omega
    have tb := natAbs_mul_lt qb b2
    have m1 : okMul q s2 = true := okMul_of qb b2 (by decide) (by decide) (by decide)
    have ub : ((r2 - r1) / g).natAbs < 2 ^ 4001 := by
      have := natAbs_ediv_le (r2 - r1) g0
      have : (2 : Nat) ^ 4001 = 2 ^ 4000 + 2 ^ 4000 := by rw [Nat.pow_succ]; omega
      omega
    have m2 : okMul ((r2 - r1) / g) x = true := okMul_of ub xb (by decide) (by decide) (by decide)
    have m3 : okMul s1 ((r2 - r1) / g * x) = true := okMul_of b1 (natAbs_mul_lt ub xb) (by decide) (by decide) (by decide)
    have d1 : okDiv (q * s2) = true := okDiv_of (by omega) tb (by decide) (by decide)
    have fm : ∀ a : Int, a.fmod (q * s2) = a % (q * s2) := fun a => Int.fmod_eq_emod_of_nonneg _ (by omega)
    have e2 : (r1 + s1 * ((r2 - r1) / g * x)) % (q * s2) = restOf s1 s2 r1 r2 g q x := rfl
    have c0 : 0 ≤ restOf s1 s2 r1 r2 g q x := Int.emod_nonneg _ (by omega)
    have c1 : restOf s1 s2 r1 r2 g q x < q * s2 := Int.emod_lt_of_pos _ t0
    have el := e_lanes_of (max l1 l2) (min h1 h2) (q * s2) (restOf s1 s2 r1 r2 g q x) t0 d1
    have iff1 := fun z => meet_iff (z := z) g0 hs1 hs2 hq hq2 bz z1 y1 z2 y2 hdv
    simp only [hd, beq_self_eq_true, e1]
    walk_at "ev"
    simp only [if_pos hdg, gd, e1]
    walk_at "ev"
    simp only [if_pos m1]
    walk_at "ev"
    simp only [if_pos hdg, gd]
    walk_at "ev"
    simp only [if_pos m2]
    walk_at "ev"
    simp only [if_pos m3]
    walk_at "ev"
    simp only [if_pos (show ¬ q * s2 = 0 by omega), fm, e2, max_ifs, min_ifs]
    walk_at "ev"
    simp only [el]
    generalize restOf s1 s2 r1 r2 g q x = c at *
    by_cases hl : max l1 l2 < min h1 h2 ∧ lanesOf (max l1 l2) (min h1 h2) (q * s2) c > 0
    · refine ⟨gt (max l1 l2) (min h1 h2) (q * s2) c, ?_, .inr ⟨q * s2, c, rfl, t0, c0, c1, tb, iff1, ⟨q2, by rw [hq, hq2]; grind⟩, ⟨q, by grind⟩, ?_, ?_, hl.2⟩⟩
      · simp only [decide_eq_true hl.1]
        walk_at "ev"
        simp only [decide_eq_true hl.2]
        walk_at "ev"
      · refine Int.mul_le_mul_of_nonneg_right ?_ (by omega)
        rw [hq]
        have := Int.mul_le_mul_of_nonneg_right (show (1 : Int) ≤ g by omega) (Int.le_of_lt q0)
        omega
      · exact fun d k1 k2 => (both_dvd (by omega) hq hq2 bz).mp ⟨k1, k2⟩
    · refine ⟨.non, ?_, .inl ⟨rfl, fun z k1 k2 k3 => hl ⟨by omega, ?_⟩⟩⟩
      · by_cases k : max l1 l2 < min h1 h2
        · simp only [decide_eq_true k]
          walk_at "ev"
          simp only [decide_eq_false (fun k2 => hl ⟨k, k2⟩)]
          walk_at "ev"
        · simp only [decide_eq_false k]
          walk_at "ev"
      · have := (lane_iff (l := max l1 l2) (h := min h1 h2) (x := z) t0 c0 c1).mp ⟨k1, k2, (iff1 z).mp k3⟩
        obtain ⟨k, a, b, _⟩ := this
        omega
  · refine ⟨.non, ?_, .inl ⟨rfl, fun z _ _ => meet_none hq hq2 z1 y1 z2 y2 fun h => hd (Int.emod_eq_zero_of_dvd h)⟩⟩
    simp only [beq_eq_false_iff_ne.mpr hd]
    walk_at "ev"
theorem e_met (l1 h1 s1 r1 l2 h2 s2 r2 : Int) (g1 : isGuard l1 h1 s1 r1 = true) (g2 : isGuard l2 h2 s2 r2 = true) (b1 : s1.natAbs < 2 ^ 4000) (b2 : s2.natAbs < 2 ^ 4000) :
    ∃ m, m_met [.val (gt l1 h1 s1 r1), .val (gt l2 h2 s2 r2)] [] = .ok m [] ∧ MeetIs l1 h1 s1 r1 l2 h2 s2 r2 m := by
  have k1 := guard_iff.mp g1
  have k2 := guard_iff.mp g2
  obtain ⟨m, em, hm⟩ := e_meeting l1 h1 s1 r1 l2 h2 s2 r2 (by omega) (by omega) b1 b2 (by omega) (by omega) (by omega) (by omega)
  refine ⟨m, ?_, hm⟩
  unfold m_met g_met
  walk_at "ev"
  simp only [e_check_guard _ _ _ _ g1, e_check_guard _ _ _ _ g2]
  walk_at "ev"
  simp only [e_check_guard _ _ _ _ g1, e_check_guard _ _ _ _ g2, em]
  walk_at "ev"
  simp only [em]
  walk_at "ev"
/-! ### what the laws draw -/
def Src (n : Nat) (m : MO) : Prop := ∃ a b c : Int, m = .lst [.int a, .int b, .int c] ∧ 0 ≤ a ∧ a.natAbs < 2 ^ 13000 ∧ 0 ≤ b ∧ b < 2305843009213693951 ∧ 0 ≤ c ∧ c ≤ n
theorem Src.mono {n k : Nat} {m : MO} (h : Src n m) (hk : n ≤ k) : Src k m := by
  obtain ⟨a, b, c, h1, h2, h3, h4, h5, h6, h7⟩ := h
  exact ⟨a, b, c, h1, h2, h3, h4, h5, h6, by omega⟩
theorem okPow3 {x : Int} {n : Nat} (h : x.natAbs < 2 ^ n) (hn : n ≤ 300000) (h0 : 0 < n) : okPow x 3 = true := by
  unfold okPow
  have := log_lt h h0
  exact decide_eq_true ⟨by decide, by show (x.natAbs.log2 + 1) * 3 ≤ 1000000; omega⟩
def mix1 (b c : Int) : Int := ((b + 179424673 * c) ^ (Int.toNat 3)).fmod 162259276829213363391578010288127
def mix2 (b c : Int) : Int := ((mix1 b c + 86028157 * c) ^ (Int.toNat 3)).fmod 170141183460469231731687303715884105727
theorem e_draw0 (a b c many : Int) (ha : decide (a > 0) = true) (hz : (many = 0) = False) (hd : okDiv many = true) :
    m__law_draw [.bor 0, .val (.int many)] [.lst [.int a, .int b, .int c]] = .ok (.int (a.fmod many)) [.lst [.int (a.fdiv many), .int b, .int c]] := by
  unfold m__law_draw g__law_draw
  iterate 6 (walk_at "ev"; try walk_at "evs")
theorem e_draw1 (a b c many : Int) (ha : decide (a > 0) = false) (hz : (many = 0) = False) (k1 : okMul 179424673 (c + 1) = true) (k2 : okPow (b + 179424673 * (c + 1)) 3 = true) (z1 : ((162259276829213363391578010288127 : Int) = 0) = False) (k3 : okMul 86028157 (c + 1) = true)
    (k4 : okPow (mix1 b (c + 1) + 86028157 * (c + 1)) 3 = true) (z2 : ((170141183460469231731687303715884105727 : Int) = 0) = False) (k5 : okDiv 2097152 = true) (e1 : ((b + 179424673 * (c + 1)) ^ (Int.toNat 3)).fmod 162259276829213363391578010288127 = mix1 b (c + 1)) (e2 : ((mix1 b (c + 1) + 86028157 * (c + 1)) ^ (Int.toNat 3)).fmod 170141183460469231731687303715884105727 = mix2 b (c + 1)) :
    m__law_draw [.bor 0, .val (.int many)] [.lst [.int a, .int b, .int c]] = .ok (.int (((mix2 b (c + 1)).fdiv 2097152).fmod many)) [.lst [.int a, .int b, .int (c + 1)]] := by
  unfold m__law_draw g__law_draw
  iterate 10 (walk_at "ev"; try walk_at "evs")
theorem e_draw {n : Nat} {m : MO} (h : Src n m) (hn : n < 2 ^ 60) (many : Int) (h0 : 0 < many) (hb : many.natAbs < 2 ^ 8000) :
    ∃ d m', m__law_draw [.bor 0, .val (.int many)] [m] = .ok (.int d) [m'] ∧ 0 ≤ d ∧ d < many ∧ Src (n + 1) m' := by
  obtain ⟨a, b, c, rfl, a0, ab, b0, bb, c0, cb⟩ := h
  have hd : okDiv many = true := okDiv_of (by omega) hb (by decide) (by decide)
  by_cases ha : 0 < a
  · refine ⟨_, _, e_draw0 a b c many (decide_eq_true ha) (by simp; omega) hd, ?_⟩
    rw [Int.fmod_eq_emod_of_nonneg _ (by omega), Int.fdiv_eq_ediv_of_nonneg _ (by omega)]
    refine ⟨Int.emod_nonneg _ (by omega), Int.emod_lt_of_pos _ h0, a / many, b, c, rfl, Int.ediv_nonneg a0 (by omega), ?_, b0, bb, c0, by omega⟩
    have := natAbs_ediv_le a h0
    omega
  · have e1 : 0 ≤ mix1 b (c + 1) ∧ mix1 b (c + 1) < 162259276829213363391578010288127 := ⟨Int.fmod_nonneg_of_pos _ (by decide), Int.fmod_lt_of_pos _ (by decide)⟩
    refine ⟨_, _, e_draw1 a b c many (decide_eq_false ha) (by simp; omega) ?_ ?_ (by simp) ?_ ?_ (by simp) (by decide +kernel) rfl rfl, ?_⟩
    · exact okMul_of (i := 179424673) (j := c + 1) (a := 30) (b := 70) (by decide) (by omega) (by decide) (by decide) (by decide)
    · exact okPow3 (n := 200) (by omega) (by decide) (by decide)
    · exact okMul_of (i := 86028157) (j := c + 1) (a := 30) (b := 70) (by decide) (by omega) (by decide) (by decide) (by decide)
    · exact okPow3 (n := 200) (by omega) (by decide) (by decide)
    · rw [Int.fmod_eq_emod_of_nonneg _ (by omega)]
      exact ⟨Int.emod_nonneg _ (by omega), Int.emod_lt_of_pos _ h0, a, b, c + 1, rfl, a0, ab, b0, bb, by omega, by omega⟩
end PM

/-! PS4: the source of what the laws draw. -/
namespace PM
open PySem PySem.Spec PyProof.Rows L2 PL PN
local macro_rules | `(tactic| walk_at "ev") => `(tactic| try simp only [mOf, endF, start0, gSeq, gNop, gAsg, gRet, gRetO, gAsgO, gDrop, gIf, gOpt, gPar, gPar3, gAug, aName, asNil, asCons, aTup, aLst, setV, setO, eVar, eC, eBin, eUn, eTup, aNil, aCons, oLst, frz, eCall, oCall, avN, avK, permL, lNil, lPv, lSl, tOf, tTru, tNt, tAn, tOrr, eIf, eAn, eOr, eNt, eChain, eCallB, eIxM, gSetIx, getM, pTru, pAdd, pSub, pMul, pFdiv, pMod, pPow, pNeg, pLt, pLe, pGt, pGe, pIs, pIsNot, pAddI, pIx, pLen, pAbs, pMax2, pMin2, Res.bind_ok, Res.bind_ex, Res.bind_stuck, Res.fl_ok, Res.fl_ex, Res.fl_stuck, Res.opt_some, Res.opt_none, lowerA, keyOf, getK, getAll, setAll, setK, distinct, List.map_cons, List.map_nil, List.length_cons, List.length_nil, List.replicate, List.cons_append, List.nil_append, List.append_nil, List.getElem?_cons_zero, List.getElem?_cons_succ, List.getElem?_nil, List.set_cons_zero, List.set_cons_succ, List.filterMap_cons, List.filterMap_nil, Option.bind_some, Option.map_some, Option.elim_some, if_true, if_false, Nat.reduceAdd, Nat.reduceSub, Nat.reduceEqDiff, Nat.reduceLeDiff, ↓reduceIte, Bool.false_eq_true, at0, at1, at2, at3, pEq, pNe, eqB_int, Option.some.injEq, decide_true, decide_false, not_true_eq_false, not_false_eq_true, Bool.and_true, ne_eq, reduceCtorEq, Bool.true_eq_false, Bool.not_true, Bool.not_false])
local macro_rules | `(tactic| walk_at "evs") => `(tactic| simp only [*, mOf, endF, start0, gSeq, gNop, gAsg, gRet, gRetO, gAsgO, gDrop, gIf, gOpt, gPar, gPar3, gAug, aName, asNil, asCons, aTup, aLst, setV, setO, eVar, eC, eBin, eUn, eTup, aNil, aCons, oLst, frz, eCall, oCall, avN, avK, permL, lNil, lPv, lSl, tOf, tTru, tNt, tAn, tOrr, eIf, eAn, eOr, eNt, eChain, eCallB, eIxM, gSetIx, getM, pTru, pAdd, pSub, pMul, pFdiv, pMod, pPow, pNeg, pLt, pLe, pGt, pGe, pIs, pIsNot, pAddI, pIx, pLen, pAbs, pMax2, pMin2, Res.bind_ok, Res.bind_ex, Res.bind_stuck, Res.fl_ok, Res.fl_ex, Res.fl_stuck, Res.opt_some, Res.opt_none, lowerA, keyOf, getK, getAll, setAll, setK, distinct, List.map_cons, List.map_nil, List.length_cons, List.length_nil, List.replicate, List.cons_append, List.nil_append, List.append_nil, List.getElem?_cons_zero, List.getElem?_cons_succ, List.getElem?_nil, List.set_cons_zero, List.set_cons_succ, List.filterMap_cons, List.filterMap_nil, Option.bind_some, Option.map_some, Option.elim_some, if_true, if_false, Nat.reduceAdd, Nat.reduceSub, Nat.reduceEqDiff, Nat.reduceLeDiff, ↓reduceIte, Bool.false_eq_true, at0, at1, at2, at3, pEq, pNe, eqB_int, Option.some.injEq, decide_true, decide_false, not_true_eq_false, not_false_eq_true, Bool.and_true, ne_eq, reduceCtorEq, Bool.true_eq_false, Bool.not_true, Bool.not_false, eq_self, not_true_eq_false, not_false_eq_true, ix30, ix31, ix32])
theorem sIx_len (n : Nat) : HT.sIx n n (some 63) = min n 63 := by
  unfold HT.sIx
  simp
  try omega
theorem cut63 (l : List PV) (h : l.length ≤ 63) : pCut l none (some 63) = l := by
  unfold pCut
  rw [sIx_len]
  have : HT.sIx l.length 0 none = 0 := by unfold HT.sIx; simp
  rw [this, List.drop_zero, Nat.sub_zero, Nat.min_eq_left h, List.take_length]
def absI (x : Int) : Int := if x < 0 then -x else x
theorem src_step (a b x : Int) (w : Option SV) (l : PV)
    (k1 : okPow 10 18 = true) (k2 : okPow 10 60 = true) (k3 : okMul a (10 ^ Int.toNat 60) = true) (k4 : okMul b 6700417 = true) (z1 : ((10 : Int) ^ Int.toNat 60 = 0) = False) (z2 : ((2305843009213693921 : Int) = 0) = False) (z3 : ((2305843009213693951 : Int) = 0) = False) (ab : (if x < 0 then -x else x) = absI x) (d : Bool) (hd : decide (absI x ≥ 10 ^ Int.toNat 18) = d) :
    l__law_source_1c ⟨[some (.val l), some (.val (.int a)), some (.val (.int b)), some (.val (.int x))], []⟩ = .nx ⟨[some (.val l), some (.val (.int (if d = true then a * 10 ^ Int.toNat 60 + (absI x).fmod (10 ^ Int.toNat 60) else a))), some (.val (.int ((b * 6700417 + x.fmod 2305843009213693921 + 13).fmod 2305843009213693951))), some (.val (.int x))], []⟩ := by
  unfold l__law_source_1c
  cases d <;> iterate 8 (walk_at "ev"; try walk_at "evs")
theorem pow60 {i : Nat} (h : i ≤ 63) : ((10 : Int) ^ 60) ^ i ≤ (10 ^ 60) ^ 63 := by
  have : ((10 ^ 60) ^ i : Nat) ≤ (10 ^ 60) ^ 63 := Nat.pow_le_pow_right (by decide) h
  exact_mod_cast this
theorem pow63 : ((10 : Int) ^ 60) ^ 63 < 2 ^ 13000 := by decide +kernel
theorem small_of {a : Int} {i : Nat} (h : i ≤ 63) (a0 : 0 ≤ a) (ab : a < (10 ^ 60) ^ i) : a.natAbs < 2 ^ 13000 := by
  have h2 := pow60 h
  have h3 := pow63
  have h4 : (2 : Int) ^ 13000 = ((2 ^ 13000 : Nat) : Int) := by norm_cast
  omega
theorem e_source (ns : List Int) (h : ns.length ≤ 63) : ∃ m, m__law_source [.val (scrOf ns)] [] = .own m [] ∧ Src 0 m := by
  have key := forL_inv (a := l__law_source_1b) (b := l__law_source_1c) (fun i s => ∃ (a b : Int) (w : Option SV), s = ⟨[some (.val (scrOf ns)), some (.val (.int a)), some (.val (.int b)), w], []⟩ ∧ 0 ≤ a ∧ (i ≤ 63 → a < (10 ^ 60) ^ i) ∧ 0 ≤ b ∧ b < 2305843009213693951) (ns.map PV.int) 0 ⟨[some (.val (scrOf ns)), some (.val (.int 0)), some (.val (.int 7368787)), none], []⟩ ⟨0, 7368787, none, rfl, by omega, fun _ => by decide, by omega, by omega⟩ ?_
  · obtain ⟨s2, e2, a, b, w, rfl, a0, ab, b0, bb⟩ := key
    have ab2 := ab (by simpa using h)
    refine ⟨.lst [.int a, .int b, .int 0], ?_, a, b, 0, rfl, a0, ?_, b0, bb, by omega, by omega⟩
    · unfold m__law_source
      rw [g__law_source_eq]
      have cl := cut63 (ns.map PV.int) (by simpa using h)
      walk_at "ev"
      simp only [gFor, iAny, eSl, pNo, pSo, eVar, eC, Res.bind_ok, Res.fl_ok, List.getElem?_cons_zero, scrOf, cl]
      simp only [scrOf] at e2
      rw [e2]
      walk_at "ev"
    · exact small_of (i := 0 + (ns.map PV.int).length) (by simpa using h) a0 ab2
  · rintro i p s hp ⟨a, b, w, rfl, a0, ab, b0, bb⟩
    obtain ⟨x, hx, rfl⟩ := List.mem_map.mp (List.mem_of_getElem? hp)
    have hi : 0 + i ≤ 63 := by
      have := (List.getElem?_eq_some_iff.mp hp).1
      rw [List.length_map] at this
      omega
    refine ⟨_, rfl, _, .inl (src_step a b x w (scrOf ns) (by decide +kernel) (by decide +kernel) ?_ ?_ (by simp) (by simp) (by simp) rfl _ rfl), ?_⟩
    · exact okMul_of (a := 13000) (b := 200) (small_of hi a0 (ab hi)) (by decide) (by decide) (by decide) (by decide)
    · exact okMul_of (a := 62) (b := 23) (by omega) (by decide) (by decide) (by decide) (by decide)
    · have q1 : 0 ≤ (absI x).fmod (10 ^ Int.toNat 60) := Int.fmod_nonneg_of_pos _ (by decide)
      have q2 : (absI x).fmod (10 ^ Int.toNat 60) < 10 ^ 60 := Int.fmod_lt_of_pos _ (by decide)
      have e6 : (10 : Int) ^ Int.toNat 60 = 10 ^ 60 := rfl
      refine ⟨_, _, _, rfl, ?_, fun h63 => ?_, Int.fmod_nonneg_of_pos _ (by decide), Int.fmod_lt_of_pos _ (by decide)⟩
      · split
        · exact Int.add_nonneg (Int.mul_nonneg a0 (by decide)) q1
        · exact a0
      · have a1 := ab hi
        rw [Int.pow_succ]
        have e7 : (a + 1) * 10 ^ 60 ≤ (10 ^ 60) ^ (0 + i) * 10 ^ 60 := Int.mul_le_mul_of_nonneg_right (by omega) (by decide)
        rw [Int.add_mul, Int.one_mul] at e7
        split
        · rw [e6] at q2 ⊢
          omega
        · have : a * 1 ≤ a * 10 ^ 60 := Int.mul_le_mul_of_nonneg_left (by decide) a0
          omega
end PM

/-! PLE: more about the mirrors' words. -/
namespace PL
open PySem PySem.Spec PyProof.Rows L2
theorem Rk.same {p : PV} {n k : Nat} (h : Rk p n k) (hn : n ≤ 16777216) (hk : k ≤ 30) : ∃ x, pRepr [p] = some (.str x) ∧ pEqB (.str x) (.str x) = some true := by
  obtain ⟨x, hx⟩ := h.repr hn hk
  refine ⟨x, hx, ?_⟩
  obtain ⟨d, h1, h2, h3, h4, h5, h6, h7⟩ := h.ex
  have e : x = d.shown := by
    unfold pRepr at hx
    simp only [h1] at hx
    split at hx
    · simp at hx; exact hx.symm
    · cases hx
  have hs : PyData.strOk x = true := by rw [e]; exact h7
  unfold pEqB
  simp [toD, SeqAt.shaped, PyData.canLay0, PyData.depth, PyData.eqv, hs]
theorem inR_of {i : Int} (h : -1000000000 ≤ i ∧ i ≤ 1000000000) : inR i = true := by
  rw [inR_def]
  exact decide_eq_true (by omega)
theorem rng_seqI (l h : Int) : rng l (h - l).toNat = (PN.seqI l h).map PV.int := by
  unfold rng PN.seqI
  rw [List.map_map]
  rfl
theorem rng_nat (n : Nat) : rng 0 n = (List.range n).map fun i : Nat => PV.int i := by
  unfold rng
  refine List.map_congr_left fun i _ => ?_
  simp
theorem filterMap_some' {α β : Type} (f : α → β) (l : List α) : l.filterMap (fun x => some (f x)) = l.map f := by
  induction l with
  | nil => rfl
  | cons x r ih => simp [ih]
/-- the first of what is kept -/
theorem filterMap_first {α β : Type} {f : α → Option β} {z : β} : ∀ {l1 : List α} {x : α} {l2 : List α}, (∀ y ∈ l1, f y = none) → f x = some z → (l1 ++ x :: l2).filterMap f = z :: l2.filterMap f
  | [], x, l2, _, h => by rw [List.nil_append, List.filterMap_cons, h]
  | y :: l1, x, l2, h1, h => by
    rw [List.cons_append, List.filterMap_cons, h1 y List.mem_cons_self]
    exact filterMap_first (fun w hw => h1 w (List.mem_cons_of_mem _ hw)) h
theorem range_split (n k : Nat) (h : k < n) : ∃ r, List.range n = List.range k ++ k :: r := by
  obtain ⟨m, rfl⟩ : ∃ m, n = k + 1 + m := ⟨n - (k + 1), by omega⟩
  induction m with
  | zero => exact ⟨[], by rw [Nat.add_zero, List.range_succ]⟩
  | succ m ih =>
    obtain ⟨r, hr⟩ := ih (by omega)
    exact ⟨r ++ [k + 1 + m], by rw [← Nat.add_assoc, List.range_succ, hr]; simp⟩
theorem atI_at {l : List PV} {i : Nat} {p : PV} (h : l[i]? = some p) : atI l i = some p := by
  have hi := (List.getElem?_eq_some_iff.mp h).1
  simp only [atI, ixN]
  rw [if_pos (by omega)]
  simp only [if_pos (show (i : Int) < (l.length : Int) by omega), Option.bind_some, Int.toNat_natCast, h]
theorem atI_last {l : List PV} {p : PV} (h : l[l.length - 1]? = some p) : atI l (-1) = some p := by
  have hl := (List.getElem?_eq_some_iff.mp h).1
  simp only [atI, ixN]
  rw [if_neg (by omega), if_pos (by omega)]
  simp only [Option.bind_some]
  rw [show ((-1 : Int) + l.length).toNat = l.length - 1 by omega, h]
end PL

namespace K03
open PySem PySem.Spec PyProof.Rows L2 PL
/-! ### the text by places -/
def top (i : Nat) : Stmt := PySem.Challenge.pw_stridelanes_k03_far_guards.main.body.getD i (.Pass ⟨0, 0, 0, 0⟩)
abbrev s__law_draw : Stmt := top 19
abbrev s__law_common : Stmt := top 20
abbrev s_is_guard : Stmt := top 5
abbrev s_check_guard : Stmt := top 6
abbrev s_first_of : Stmt := top 7
abbrev s_lanes_of : Stmt := top 8
abbrev s_count_lanes : Stmt := top 13
abbrev s_has : Stmt := top 10
abbrev s_has_lane : Stmt := top 15
abbrev s_lane_at : Stmt := top 9
abbrev s_nth_lane : Stmt := top 14
abbrev s__law_counts_right : Stmt := top 21
abbrev s__law_source : Stmt := top 18
abbrev s_bezout : Stmt := top 11
abbrev s_meeting : Stmt := top 12
abbrev s_met : Stmt := top 16
abbrev s_law : Stmt := top 22
/-! ### the mirrors -/
noncomputable def g__law_common : Stt → Fl :=
  (gSeq (gPar 1 2 (aCons (eBin pAdd (eC (.int 1)) (eCall PM.m__law_draw (avN 2 (lSl 0 (lPv (eBin pIx (frz (oLst (aCons (eC (.int 9)) (aCons (eBin pPow (eC (.int 10)) (eC (.int 9))) (aCons (eBin pPow (eC (.int 10)) (eC (.int 14))) aNil))))) (eCall PM.m__law_draw (avN 2 (lSl 0 (lPv (eC (.int 3)) lNil))))) lNil))))) (aCons (eBin pAdd (eC (.int 1)) (eCall PM.m__law_draw (avN 2 (lSl 0 (lPv (eBin pPow (eC (.int 10)) (eC (.int 7))) lNil))))) aNil)))
  (gSeq (gParO 3 4 (eCall PM.m__law_draw (avN 2 (lSl 0 (lPv (eBin pPow (eC (.int 10)) (eC (.int 30))) lNil)))) (oLst aNil))
  (gSeq (gFor (iAny (frz (oLst (aCons (eBin pMul (eVar 1) (eVar 2)) (aCons (eBin pMul (eVar 1) (eBin pAdd (eVar 2) (eC (.int 1)))) aNil))))) (aName 5)
  (gSeq (gAsg (eBin pSub (eVar 3) (eBin pFdiv (eCall PM.m__law_draw (avN 2 (lSl 0 (lPv (eBin pAdd (eVar 3) (eC (.int 1))) lNil)))) (eBin pIx (frz (oLst (aCons (eC (.int 1)) (aCons (eBin pPow (eC (.int 10)) (eC (.int 9))) (aCons (eBin pPow (eC (.int 10)) (eC (.int 20))) aNil))))) (eCall PM.m__law_draw (avN 2 (lSl 0 (lPv (eC (.int 3)) lNil))))))) (aName 6))
  (gSeq (gApp 4 (eTup (aCons (eCallB pMax2 (aCons (eC (.int 0)) (aCons (eVar 6) aNil))) (aCons (eBin pAdd (eBin pAdd (eVar 3) (eC (.int 1))) (eCall PM.m__law_draw (avN 2 (lSl 0 (lPv (eBin pSub (eBin pPow (eC (.int 10)) (eC (.int 30))) (eVar 3)) lNil))))) (aCons (eVar 5) (aCons (eBin pMod (eVar 3) (eVar 5)) aNil))))))
  gNop)))
  (gSeq (gAsg (eBin pMul (eBin pMul (eVar 1) (eVar 2)) (eBin pAdd (eVar 2) (eC (.int 1)))) (aName 7))
  (gSeq (gPar 6 8 (aCons (eCallB pMax2 (aCons (eBin pIx (eIxM 4 (eC (.int 0))) (eC (.int 0))) (aCons (eBin pIx (eIxM 4 (eC (.int 1))) (eC (.int 0))) aNil))) (aCons (eCallB pMin2 (aCons (eBin pIx (eIxM 4 (eC (.int 0))) (eC (.int 1))) (aCons (eBin pIx (eIxM 4 (eC (.int 1))) (eC (.int 1))) aNil))) aNil)))
  (gSeq (gRet (frz (oLst (aCons (eIxM 4 (eC (.int 0))) (aCons (eIxM 4 (eC (.int 1))) (aCons (eTup (aCons (eVar 6) (aCons (eVar 8) (aCons (eVar 7) (aCons (eBin pMod (eVar 3) (eVar 7)) aNil))))) (aCons (eVar 3) (aCons (eVar 1) aNil))))))))
  gNop))))))
noncomputable def m__law_common : List SV → List MO → FRes := mOf 9 g__law_common
noncomputable def g__law_counts_right : Stt → Fl :=
  (gSeq (gAsg (eCall PM.m_count_lanes (avN 1 (lPv (eVar 1) lNil))) (aName 2))
  (gSeq (gPar 3 4 (aCons (eCall PM.m_nth_lane (avN 2 (lPv (eVar 1) (lPv (eC (.int 0)) lNil)))) (aCons (eCall PM.m_nth_lane (avN 2 (lPv (eVar 1) (lPv (eBin pSub (eVar 2) (eC (.int 1))) lNil)))) aNil)))
  (gSeq (gIf (tOrr (tOf (eBin pGe (eBin pSub (eVar 3) (eBin pIx (eVar 1) (eC (.int 2)))) (eBin pIx (eVar 1) (eC (.int 0))))) (tOrr (tOf (eBin pLt (eBin pAdd (eVar 4) (eBin pIx (eVar 1) (eC (.int 2)))) (eBin pIx (eVar 1) (eC (.int 1))))) (tOf (eBin pNe (eBin pSub (eVar 4) (eVar 3)) (eBin pMul (eBin pIx (eVar 1) (eC (.int 2))) (eBin pSub (eVar 2) (eC (.int 1))))))))
  (gSeq (gRet (eC (.bl false)))
  gNop)
  gNop)
  (gSeq (gAsg (eCall PM.m__law_draw (avN 2 (lSl 0 (lPv (eVar 2) lNil)))) (aName 5))
  (gSeq (gIf (tOrr (tOf (eBin pNe (eCall PM.m_nth_lane (avN 2 (lPv (eVar 1) (lPv (eVar 5) lNil)))) (eBin pAdd (eVar 3) (eBin pMul (eBin pIx (eVar 1) (eC (.int 2))) (eVar 5))))) (tNt (tTru (eCall PM.m_has_lane (avN 2 (lPv (eVar 1) (lPv (eCall PM.m_nth_lane (avN 2 (lPv (eVar 1) (lPv (eVar 5) lNil)))) lNil)))))))
  (gSeq (gRet (eC (.bl false)))
  gNop)
  gNop)
  (gSeq (gAsg (eBin pAdd (eBin pIx (eVar 1) (eC (.int 0))) (eCall PM.m__law_draw (avN 2 (lSl 0 (lPv (eBin pAdd (eBin pSub (eBin pIx (eVar 1) (eC (.int 1))) (eBin pIx (eVar 1) (eC (.int 0)))) (eC (.int 1))) lNil))))) (aName 6))
  (gSeq (gAsg (frz (oLst (aCons (eTup (aCons (eBin pIx (eVar 1) (eC (.int 0))) (aCons (eVar 6) (aCons (eBin pIx (eVar 1) (eC (.int 2))) (aCons (eBin pIx (eVar 1) (eC (.int 3))) aNil))))) (aCons (eTup (aCons (eVar 6) (aCons (eBin pIx (eVar 1) (eC (.int 1))) (aCons (eBin pIx (eVar 1) (eC (.int 2))) (aCons (eBin pIx (eVar 1) (eC (.int 3))) aNil))))) aNil)))) (aName 7))
  (gSeq (gIf (tOf (eBin pNe (eCallB pSum (aCons (frz (oComp [8] (iAny (eVar 7)) (aName 8) tYesD (eCall PM.m_count_lanes (avN 1 (lPv (eVar 8) lNil))))) aNil)) (eVar 2)))
  (gSeq (gRet (eC (.bl false)))
  gNop)
  gNop)
  (gSeq (gRet (eBin pEq (eCall PM.m_has_lane (avN 2 (lPv (eVar 1) (lPv (eVar 6) lNil)))) (eAn (eChain pLe pLt (eBin pIx (eVar 1) (eC (.int 0))) (eVar 6) (eBin pIx (eVar 1) (eC (.int 1)))) (eBin pEq (eBin pMod (eVar 6) (eBin pIx (eVar 1) (eC (.int 2)))) (eBin pIx (eVar 1) (eC (.int 3)))))))
  gNop)))))))))
noncomputable def m__law_counts_right : List SV → List MO → FRes := mOf 9 g__law_counts_right
noncomputable def g_law : Stt → Fl :=
  (gSeq (gAsgO 1 (oCall PM.m__law_source (avN 1 (lPv (eVar 0) lNil))))
  (gSeq (gFor (iRange1 (aCons (eBin pAdd (eC (.int 2)) (eCallB pMin2 (aCons (eC (.int 6)) (aCons (eCallB pLen (aCons (eVar 0) aNil)) aNil)))) aNil)) (aName 2)
  (gSeq (gAsg (eCall m__law_common (avN 1 (lSl 1 lNil))) (aLst 5 (asCons (aName 3) (asCons (aName 4) (asCons (aName 5) (asCons (aName 6) (asCons (aName 7) asNil)))))))
  (gSeq (gIf (tOrr (tOf (eBin pNe (eCall PM.m_met (avN 2 (lPv (eVar 3) (lPv (eVar 4) lNil)))) (eVar 5))) (tOrr (tOf (eBin pNe (eCall PM.m_met (avN 2 (lPv (eVar 4) (lPv (eVar 3) lNil)))) (eVar 5))) (tNt (tTru (eCall PM.m_has_lane (avN 2 (lPv (eVar 5) (lPv (eVar 6) lNil))))))))
  (gSeq (gRet (eC (.bl false)))
  gNop)
  gNop)
  (gSeq (gIf (tOrr (tNt (tTru (eCall m__law_counts_right (avN 2 (lSl 1 (lPv (eVar 3) lNil)))))) (tNt (tTru (eCall m__law_counts_right (avN 2 (lSl 1 (lPv (eVar 5) lNil)))))))
  (gSeq (gRet (eC (.bl false)))
  gNop)
  gNop)
  (gSeq (gIf (tOf (eBin pGt (eVar 7) (eC (.int 1))))
  (gSeq (gAsg (eTup (aCons (eBin pIx (eVar 4) (eC (.int 0))) (aCons (eBin pIx (eVar 4) (eC (.int 1))) (aCons (eBin pIx (eVar 4) (eC (.int 2))) (aCons (eBin pMod (eBin pAdd (eBin pAdd (eBin pIx (eVar 4) (eC (.int 3))) (eC (.int 1))) (eCall PM.m__law_draw (avN 2 (lSl 1 (lPv (eBin pSub (eVar 7) (eC (.int 1))) lNil))))) (eBin pIx (eVar 4) (eC (.int 2)))) aNil))))) (aName 8))
  (gSeq (gIf (tAn (tOf (eBin pNe (eBin pMod (eBin pIx (eVar 8) (eC (.int 3))) (eVar 7)) (eBin pMod (eBin pIx (eVar 3) (eC (.int 3))) (eVar 7)))) (tOf (eBin pIsNot (eCall PM.m_met (avN 2 (lPv (eVar 3) (lPv (eVar 8) lNil)))) (eC .non))))
  (gSeq (gRet (eC (.bl false)))
  gNop)
  gNop)
  gNop))
  gNop)
  gNop)))))
  (gSeq (gRet (eBin pEq (eCall PM.m_count_lanes (avN 1 (lPv (eTup (aCons (eC (.int 3)) (aCons (eBin pPow (eC (.int 10)) (eC (.int 30))) (aCons (eC (.int 7)) (aCons (eC (.int 3)) aNil))))) lNil))) (eBin pFdiv (eBin pSub (eBin pPow (eC (.int 10)) (eC (.int 30))) (eC (.int 1))) (eC (.int 7)))))
  gNop)))
noncomputable def m_law : List SV → List MO → FRes := mOf 9 g_law
/-! ### what the top has left -/
structure Txt (K : PySem.W.Frag) (mg : Str → Option Value) where
  a__law_draw : Addr
  fd__law_draw : FuncData
  F__law_draw : Fun K "_law_draw" "_law_draw" s__law_draw a__law_draw fd__law_draw
  b__law_draw : Binds K fd__law_draw ["source", "many"] []
  mg__law_draw : mg "_law_draw" = some (.ref a__law_draw)
  a__law_common : Addr
  fd__law_common : FuncData
  F__law_common : Fun K "_law_common" "_law_common" s__law_common a__law_common fd__law_common
  b__law_common : Binds K fd__law_common ["source"] []
  mg__law_common : mg "_law_common" = some (.ref a__law_common)
  a_is_guard : Addr
  fd_is_guard : FuncData
  F_is_guard : Fun K "is_guard" "is_guard" s_is_guard a_is_guard fd_is_guard
  b_is_guard : Binds K fd_is_guard ["guard"] []
  mg_is_guard : mg "is_guard" = some (.ref a_is_guard)
  a_check_guard : Addr
  fd_check_guard : FuncData
  F_check_guard : Fun K "check_guard" "check_guard" s_check_guard a_check_guard fd_check_guard
  b_check_guard : Binds K fd_check_guard ["guard"] []
  mg_check_guard : mg "check_guard" = some (.ref a_check_guard)
  a_first_of : Addr
  fd_first_of : FuncData
  F_first_of : Fun K "first_of" "first_of" s_first_of a_first_of fd_first_of
  b_first_of : Binds K fd_first_of ["guard"] []
  mg_first_of : mg "first_of" = some (.ref a_first_of)
  a_lanes_of : Addr
  fd_lanes_of : FuncData
  F_lanes_of : Fun K "lanes_of" "lanes_of" s_lanes_of a_lanes_of fd_lanes_of
  b_lanes_of : Binds K fd_lanes_of ["guard"] []
  mg_lanes_of : mg "lanes_of" = some (.ref a_lanes_of)
  a_count_lanes : Addr
  fd_count_lanes : FuncData
  F_count_lanes : Fun K "count_lanes" "count_lanes" s_count_lanes a_count_lanes fd_count_lanes
  b_count_lanes : Binds K fd_count_lanes ["guard"] []
  mg_count_lanes : mg "count_lanes" = some (.ref a_count_lanes)
  a_has : Addr
  fd_has : FuncData
  F_has : Fun K "has" "has" s_has a_has fd_has
  b_has : Binds K fd_has ["guard", "lane"] []
  mg_has : mg "has" = some (.ref a_has)
  a_has_lane : Addr
  fd_has_lane : FuncData
  F_has_lane : Fun K "has_lane" "has_lane" s_has_lane a_has_lane fd_has_lane
  b_has_lane : Binds K fd_has_lane ["guard", "lane"] []
  mg_has_lane : mg "has_lane" = some (.ref a_has_lane)
  a_lane_at : Addr
  fd_lane_at : FuncData
  F_lane_at : Fun K "lane_at" "lane_at" s_lane_at a_lane_at fd_lane_at
  b_lane_at : Binds K fd_lane_at ["guard", "number"] []
  mg_lane_at : mg "lane_at" = some (.ref a_lane_at)
  a_nth_lane : Addr
  fd_nth_lane : FuncData
  F_nth_lane : Fun K "nth_lane" "nth_lane" s_nth_lane a_nth_lane fd_nth_lane
  b_nth_lane : Binds K fd_nth_lane ["guard", "number"] []
  mg_nth_lane : mg "nth_lane" = some (.ref a_nth_lane)
  a__law_counts_right : Addr
  fd__law_counts_right : FuncData
  F__law_counts_right : Fun K "_law_counts_right" "_law_counts_right" s__law_counts_right a__law_counts_right fd__law_counts_right
  b__law_counts_right : Binds K fd__law_counts_right ["source", "row"] []
  mg__law_counts_right : mg "_law_counts_right" = some (.ref a__law_counts_right)
  a__law_source : Addr
  fd__law_source : FuncData
  F__law_source : Fun K "_law_source" "_law_source" s__law_source a__law_source fd__law_source
  b__law_source : Binds K fd__law_source ["script"] []
  mg__law_source : mg "_law_source" = some (.ref a__law_source)
  a_bezout : Addr
  fd_bezout : FuncData
  F_bezout : Fun K "bezout" "bezout" s_bezout a_bezout fd_bezout
  b_bezout : Binds K fd_bezout ["one", "other"] []
  mg_bezout : mg "bezout" = some (.ref a_bezout)
  a_meeting : Addr
  fd_meeting : FuncData
  F_meeting : Fun K "meeting" "meeting" s_meeting a_meeting fd_meeting
  b_meeting : Binds K fd_meeting ["guard", "other"] []
  mg_meeting : mg "meeting" = some (.ref a_meeting)
  a_met : Addr
  fd_met : FuncData
  F_met : Fun K "met" "met" s_met a_met fd_met
  b_met : Binds K fd_met ["guard", "other"] []
  mg_met : mg "met" = some (.ref a_met)
  a_law : Addr
  fd_law : FuncData
  F_law : Fun K "law" "law" s_law a_law fd_law
  b_law : Binds K fd_law ["script"] []
  mg_law : mg "law" = some (.ref a_law)
  z_abs : mg "abs" = none
  z_len : mg "len" = none
  z_max : mg "max" = none
  z_min : mg "min" = none
  z_range : mg "range" = none
  z_sum : mg "sum" = none
section
variable {P : Program} {w : World} {K : PySem.W.Frag} {mg : Str → Option Value} {base : Heap} {cl : Str → Addr}
theorem sc__law_draw : FnScope ["source", "many", "drawn", "mixed"] ["source", "many"] (defScope s__law_draw) := ⟨rfl, rfl, rfl, by decide +kernel, rfl, by decide +kernel, by decide +kernel⟩
theorem ok__law_draw (T : Txt K mg) : FnP P w K mg base cl 1 T.a__law_draw T.fd__law_draw ["source", "many"] PM.m__law_draw :=
  fnp (N := ["source", "many", "drawn", "mixed"]) (ps := ["source", "many"]) (k := 0) T.F__law_draw sc__law_draw rfl fun cdv A outer s H E C hK hcl hr bd => by
    subst hcl
    have nd := sc__law_draw.nd
    have hu64 := hr.units
    have hu65 : (A.deeper (envOfC "_law_draw" (defScope s__law_draw) s.heap.objs.size T.a__law_draw cdv)).units + 65 < cLine := by have := hr.un; omega
    exact (dss_cons (ds_if (dt_cmp op_gt d_gt (dv_ixM 0 dv_int (fun _ _ => rfl)) dv_int (by rfl))
      (dss_cons (ds_set (i := 2) nd rfl (Or.inl rfl) (dv_op op_modN d_mod (dv_ixM 0 dv_int (fun _ _ => rfl)) (dv_var 1)))
      (dss_cons (ds_setIx 0 (dv_op op_fdivA d_fdiv (dv_ixM 0 dv_int (fun _ _ => rfl)) (dv_var 1)) dv_int)
      (dss_cons (ds_ret (dv_var 2))
      dss_nil)))
      dss_nil)
      (dss_cons (ds_setIx 0 (dv_op op_addA (d_add hK.symm) (dv_ixM 0 dv_int (fun _ _ => rfl)) dv_int) dv_int)
      (dss_cons (ds_set (i := 3) nd rfl (Or.inl rfl) (dv_op op_modN d_mod (dv_op op_powA d_pow (dv_op op_addA (d_add hK.symm) (dv_ixM 0 dv_int (fun _ _ => rfl)) (dv_op op_mulA d_mul dv_int (dv_ixM 0 dv_int (fun _ _ => rfl)))) dv_int) dv_int))
      (dss_cons (ds_set (i := 3) nd rfl (Or.inl rfl) (dv_op op_modN d_mod (dv_op op_powA d_pow (dv_op op_addA (d_add hK.symm) (dv_var 3) (dv_op op_mulA d_mul dv_int (dv_ixM 0 dv_int (fun _ _ => rfl)))) dv_int) dv_int))
      (dss_cons (ds_ret (dv_op op_modN d_mod (dv_op op_fdivA d_fdiv (dv_var 3) dv_int) (dv_var 1)))
      dss_nil)))))
theorem sc__law_common : FnScope ["source", "one", "by", "spot", "some", "step", "low", "whole", "high"] ["source"] (defScope s__law_common) := ⟨rfl, rfl, rfl, by decide +kernel, rfl, by decide +kernel, by decide +kernel⟩
theorem ok__law_common (T : Txt K mg) : FnP P w K mg base cl 2 T.a__law_common T.fd__law_common ["source"] m__law_common :=
  fnp (N := ["source", "one", "by", "spot", "some", "step", "low", "whole", "high"]) (ps := ["source"]) (k := 1) T.F__law_common sc__law_common rfl fun cdv A outer s H E C hK hcl hr bd => by
    subst hcl
    have nd := sc__law_common.nd
    have hu64 := hr.units
    have hu65 : (A.deeper (envOfC "_law_common" (defScope s__law_common) s.heap.objs.size T.a__law_common cdv)).units + 65 < cLine := by have := hr.un; omega
    exact (dss_cons (ds_par (i := 1) (j := 2) bd.calm nd rfl rfl (by decide) rfl rfl (da_cons (dv_op op_addA (d_add hK.symm) dv_int (dv_call (ok__law_draw T) (L2.Room.mono (j := 1) hr (by decide)) bd.gu bd.tk hK.symm T.mg__law_draw T.F__law_draw.kp T.b__law_draw (dl_sl 0 (dl_pv (dv_ix hK.symm (dv_frz (do_lst (da_cons dv_int (da_cons (dv_op op_powA d_pow dv_int dv_int) (da_cons (dv_op op_powA d_pow dv_int dv_int) da_nil))))) (dv_call (ok__law_draw T) (L2.Room.mono (j := 1) hr (by decide)) bd.gu bd.tk hK.symm T.mg__law_draw T.F__law_draw.kp T.b__law_draw (dl_sl 0 (dl_pv dv_int dl_nil))) (fun _ _ => rfl)) dl_nil)))) (da_cons (dv_op op_addA (d_add hK.symm) dv_int (dv_call (ok__law_draw T) (L2.Room.mono (j := 1) hr (by decide)) bd.gu bd.tk hK.symm T.mg__law_draw T.F__law_draw.kp T.b__law_draw (dl_sl 0 (dl_pv (dv_op op_powA d_pow dv_int dv_int) dl_nil)))) da_nil)) rfl)
      (dss_cons (ds_parO (i := 3) (j := 4) bd.calm nd rfl rfl (by decide) rfl rfl (dv_call (ok__law_draw T) (L2.Room.mono (j := 1) hr (by decide)) bd.gu bd.tk hK.symm T.mg__law_draw T.F__law_draw.kp T.b__law_draw (dl_sl 0 (dl_pv (dv_op op_powA d_pow dv_int dv_int) dl_nil))) (do_lst da_nil) rfl)
      (dss_cons (ds_for bd.own bd.calm (di_any hK.symm (dv_frz (do_lst (da_cons (dv_op op_mulA d_mul (dv_var 1) (dv_var 2)) (da_cons (dv_op op_mulA d_mul (dv_var 1) (dv_op op_addA (d_add hK.symm) (dv_var 2) dv_int)) da_nil))))) (dg_name (i := 5) nd rfl (Or.inl rfl))
      (dss_cons (ds_set (i := 6) nd rfl (Or.inl rfl) (dv_op op_sub d_sub (dv_var 3) (dv_op op_fdivA d_fdiv (dv_call (ok__law_draw T) (L2.Room.mono (j := 1) hr (by decide)) bd.gu bd.tk hK.symm T.mg__law_draw T.F__law_draw.kp T.b__law_draw (dl_sl 0 (dl_pv (dv_op op_addA (d_add hK.symm) (dv_var 3) dv_int) dl_nil))) (dv_ix hK.symm (dv_frz (do_lst (da_cons dv_int (da_cons (dv_op op_powA d_pow dv_int dv_int) (da_cons (dv_op op_powA d_pow dv_int dv_int) da_nil))))) (dv_call (ok__law_draw T) (L2.Room.mono (j := 1) hr (by decide)) bd.gu bd.tk hK.symm T.mg__law_draw T.F__law_draw.kp T.b__law_draw (dl_sl 0 (dl_pv dv_int dl_nil))) (fun _ _ => rfl)))))
      (dss_cons (ds_app 4 (dv_tup (da_cons (dv_callB (call_max2 bd.calm) c_max2 rfl T.z_max (by decide +kernel) (da_cons dv_int (da_cons (dv_var 6) da_nil))) (da_cons (dv_op op_addA (d_add hK.symm) (dv_op op_addA (d_add hK.symm) (dv_var 3) dv_int) (dv_call (ok__law_draw T) (L2.Room.mono (j := 1) hr (by decide)) bd.gu bd.tk hK.symm T.mg__law_draw T.F__law_draw.kp T.b__law_draw (dl_sl 0 (dl_pv (dv_op op_sub d_sub (dv_op op_powA d_pow dv_int dv_int) (dv_var 3)) dl_nil)))) (da_cons (dv_var 5) (da_cons (dv_op op_modN d_mod (dv_var 3) (dv_var 5)) da_nil))))))
      dss_nil)))
      (dss_cons (ds_set (i := 7) nd rfl (Or.inl rfl) (dv_op op_mulA d_mul (dv_op op_mulA d_mul (dv_var 1) (dv_var 2)) (dv_op op_addA (d_add hK.symm) (dv_var 2) dv_int)))
      (dss_cons (ds_par (i := 6) (j := 8) bd.calm nd rfl rfl (by decide) rfl rfl (da_cons (dv_callB (call_max2 bd.calm) c_max2 rfl T.z_max (by decide +kernel) (da_cons (dv_ix hK.symm (dv_ixM 4 dv_int (fun _ _ => rfl)) dv_int (fun _ _ => rfl)) (da_cons (dv_ix hK.symm (dv_ixM 4 dv_int (fun _ _ => rfl)) dv_int (fun _ _ => rfl)) da_nil))) (da_cons (dv_callB (call_min2 bd.calm) c_min2 rfl T.z_min (by decide +kernel) (da_cons (dv_ix hK.symm (dv_ixM 4 dv_int (fun _ _ => rfl)) dv_int (fun _ _ => rfl)) (da_cons (dv_ix hK.symm (dv_ixM 4 dv_int (fun _ _ => rfl)) dv_int (fun _ _ => rfl)) da_nil))) da_nil)) rfl)
      (dss_cons (ds_ret (dv_frz (do_lst (da_cons (dv_ixM 4 dv_int (fun _ _ => rfl)) (da_cons (dv_ixM 4 dv_int (fun _ _ => rfl)) (da_cons (dv_tup (da_cons (dv_var 6) (da_cons (dv_var 8) (da_cons (dv_var 7) (da_cons (dv_op op_modN d_mod (dv_var 3) (dv_var 7)) da_nil))))) (da_cons (dv_var 3) (da_cons (dv_var 1) da_nil))))))))
      dss_nil))))))
theorem sc_is_guard : FnScope ["guard", "low", "high", "step", "rest"] ["guard"] (defScope s_is_guard) := ⟨rfl, rfl, rfl, by decide +kernel, rfl, by decide +kernel, by decide +kernel⟩
theorem ok_is_guard (T : Txt K mg) : FnP P w K mg base cl 1 T.a_is_guard T.fd_is_guard ["guard"] PM.m_is_guard :=
  fnp (N := ["guard", "low", "high", "step", "rest"]) (ps := ["guard"]) (k := 0) T.F_is_guard sc_is_guard rfl fun cdv A outer s H E C hK hcl hr bd => by
    subst hcl
    have nd := sc_is_guard.nd
    have hu64 := hr.units
    have hu65 : (A.deeper (envOfC "is_guard" (defScope s_is_guard) s.heap.objs.size T.a_is_guard cdv)).units + 65 < cLine := by have := hr.un; omega
    exact (dss_cons (ds_asg (dv_var 0) (dg_tup (n := 4) hK.symm bd.calm (dgs_cons (dg_name (i := 1) nd rfl (Or.inl rfl)) (dgs_cons (dg_name (i := 2) nd rfl (Or.inl rfl)) (dgs_cons (dg_name (i := 3) nd rfl (Or.inl rfl)) (dgs_cons (dg_name (i := 4) nd rfl (Or.inl rfl)) dgs_nil))))))
      (dss_cons (ds_ret (dv_and hK.symm (dv_chain op_le op_le d_le d_le dv_int (dv_var 1) (dv_var 2)) (dv_one (dv_chain op_le op_lt d_le d_lt dv_int (dv_var 4) (dv_var 3)))))
      dss_nil))
theorem sc_check_guard : FnScope ["guard"] ["guard"] (defScope s_check_guard) := ⟨rfl, rfl, rfl, by decide +kernel, rfl, by decide +kernel, by decide +kernel⟩
theorem ok_check_guard (T : Txt K mg) : FnP P w K mg base cl 2 T.a_check_guard T.fd_check_guard ["guard"] PM.m_check_guard :=
  fnp (N := ["guard"]) (ps := ["guard"]) (k := 1) T.F_check_guard sc_check_guard rfl fun cdv A outer s H E C hK hcl hr bd => by
    subst hcl
    have nd := sc_check_guard.nd
    have hu64 := hr.units
    have hu65 : (A.deeper (envOfC "check_guard" (defScope s_check_guard) s.heap.objs.size T.a_check_guard cdv)).units + 65 < cLine := by have := hr.un; omega
    exact (dss_cons (ds_if (dt_not (dt_tru hK.symm (dv_call (ok_is_guard T) (L2.Room.mono (j := 1) hr (by decide)) bd.gu bd.tk hK.symm T.mg_is_guard T.F_is_guard.kp T.b_is_guard (dl_pv (dv_var 0) dl_nil))))
      (dss_cons ds_never
      dss_nil)
      dss_nil)
      dss_nil)
theorem sc_first_of : FnScope ["guard", "low", "high", "step", "rest"] ["guard"] (defScope s_first_of) := ⟨rfl, rfl, rfl, by decide +kernel, rfl, by decide +kernel, by decide +kernel⟩
theorem ok_first_of (T : Txt K mg) : FnP P w K mg base cl 1 T.a_first_of T.fd_first_of ["guard"] PM.m_first_of :=
  fnp (N := ["guard", "low", "high", "step", "rest"]) (ps := ["guard"]) (k := 0) T.F_first_of sc_first_of rfl fun cdv A outer s H E C hK hcl hr bd => by
    subst hcl
    have nd := sc_first_of.nd
    have hu64 := hr.units
    have hu65 : (A.deeper (envOfC "first_of" (defScope s_first_of) s.heap.objs.size T.a_first_of cdv)).units + 65 < cLine := by have := hr.un; omega
    exact (dss_cons (ds_asg (dv_var 0) (dg_tup (n := 4) hK.symm bd.calm (dgs_cons (dg_name (i := 1) nd rfl (Or.inl rfl)) (dgs_cons (dg_name (i := 2) nd rfl (Or.inl rfl)) (dgs_cons (dg_name (i := 3) nd rfl (Or.inl rfl)) (dgs_cons (dg_name (i := 4) nd rfl (Or.inl rfl)) dgs_nil))))))
      (dss_cons (ds_ret (dv_op op_addA (d_add hK.symm) (dv_var 1) (dv_op op_modN d_mod (dv_op op_sub d_sub (dv_var 4) (dv_var 1)) (dv_var 3))))
      dss_nil))
theorem sc_lanes_of : FnScope ["guard"] ["guard"] (defScope s_lanes_of) := ⟨rfl, rfl, rfl, by decide +kernel, rfl, by decide +kernel, by decide +kernel⟩
theorem ok_lanes_of (T : Txt K mg) : FnP P w K mg base cl 2 T.a_lanes_of T.fd_lanes_of ["guard"] PM.m_lanes_of :=
  fnp (N := ["guard"]) (ps := ["guard"]) (k := 1) T.F_lanes_of sc_lanes_of rfl fun cdv A outer s H E C hK hcl hr bd => by
    subst hcl
    have nd := sc_lanes_of.nd
    have hu64 := hr.units
    have hu65 : (A.deeper (envOfC "lanes_of" (defScope s_lanes_of) s.heap.objs.size T.a_lanes_of cdv)).units + 65 < cLine := by have := hr.un; omega
    exact (dss_cons (ds_ret (dv_callB (call_max2 bd.calm) c_max2 rfl T.z_max (by decide +kernel) (da_cons dv_int (da_cons (dv_op op_fdivA d_fdiv (dv_op op_sub d_sub (dv_op op_addA (d_add hK.symm) (dv_op op_sub d_sub (dv_ix hK.symm (dv_var 0) dv_int (fun _ _ => rfl)) (dv_call (ok_first_of T) (L2.Room.mono (j := 1) hr (by decide)) bd.gu bd.tk hK.symm T.mg_first_of T.F_first_of.kp T.b_first_of (dl_pv (dv_var 0) dl_nil))) (dv_ix hK.symm (dv_var 0) dv_int (fun _ _ => rfl))) dv_int) (dv_ix hK.symm (dv_var 0) dv_int (fun _ _ => rfl))) da_nil))))
      dss_nil)
theorem sc_count_lanes : FnScope ["guard"] ["guard"] (defScope s_count_lanes) := ⟨rfl, rfl, rfl, by decide +kernel, rfl, by decide +kernel, by decide +kernel⟩
theorem ok_count_lanes (T : Txt K mg) : FnP P w K mg base cl 3 T.a_count_lanes T.fd_count_lanes ["guard"] PM.m_count_lanes :=
  fnp (N := ["guard"]) (ps := ["guard"]) (k := 2) T.F_count_lanes sc_count_lanes rfl fun cdv A outer s H E C hK hcl hr bd => by
    subst hcl
    have nd := sc_count_lanes.nd
    have hu64 := hr.units
    have hu65 : (A.deeper (envOfC "count_lanes" (defScope s_count_lanes) s.heap.objs.size T.a_count_lanes cdv)).units + 65 < cLine := by have := hr.un; omega
    exact (dss_cons (ds_expr (dv_call (ok_check_guard T) (L2.Room.mono (j := 2) hr (by decide)) bd.gu bd.tk hK.symm T.mg_check_guard T.F_check_guard.kp T.b_check_guard (dl_pv (dv_var 0) dl_nil)))
      (dss_cons (ds_ret (dv_call (ok_lanes_of T) (L2.Room.mono (j := 2) hr (by decide)) bd.gu bd.tk hK.symm T.mg_lanes_of T.F_lanes_of.kp T.b_lanes_of (dl_pv (dv_var 0) dl_nil)))
      dss_nil))
theorem sc_has : FnScope ["guard", "lane", "low", "high", "step", "rest"] ["guard", "lane"] (defScope s_has) := ⟨rfl, rfl, rfl, by decide +kernel, rfl, by decide +kernel, by decide +kernel⟩
theorem ok_has (T : Txt K mg) : FnP P w K mg base cl 1 T.a_has T.fd_has ["guard", "lane"] PM.m_has :=
  fnp (N := ["guard", "lane", "low", "high", "step", "rest"]) (ps := ["guard", "lane"]) (k := 0) T.F_has sc_has rfl fun cdv A outer s H E C hK hcl hr bd => by
    subst hcl
    have nd := sc_has.nd
    have hu64 := hr.units
    have hu65 : (A.deeper (envOfC "has" (defScope s_has) s.heap.objs.size T.a_has cdv)).units + 65 < cLine := by have := hr.un; omega
    exact (dss_cons (ds_asg (dv_var 0) (dg_tup (n := 4) hK.symm bd.calm (dgs_cons (dg_name (i := 2) nd rfl (Or.inl rfl)) (dgs_cons (dg_name (i := 3) nd rfl (Or.inl rfl)) (dgs_cons (dg_name (i := 4) nd rfl (Or.inl rfl)) (dgs_cons (dg_name (i := 5) nd rfl (Or.inl rfl)) dgs_nil))))))
      (dss_cons (ds_ret (dv_and hK.symm (dv_chain op_le op_lt d_le d_lt (dv_var 2) (dv_var 1) (dv_var 3)) (dv_one (dv_cmp (op_eqD hu64) (d_eq hK.symm) (dv_op op_modN d_mod (dv_var 1) (dv_var 4)) (dv_var 5) (by rfl)))))
      dss_nil))
theorem sc_has_lane : FnScope ["guard", "lane"] ["guard", "lane"] (defScope s_has_lane) := ⟨rfl, rfl, rfl, by decide +kernel, rfl, by decide +kernel, by decide +kernel⟩
theorem ok_has_lane (T : Txt K mg) : FnP P w K mg base cl 3 T.a_has_lane T.fd_has_lane ["guard", "lane"] PM.m_has_lane :=
  fnp (N := ["guard", "lane"]) (ps := ["guard", "lane"]) (k := 2) T.F_has_lane sc_has_lane rfl fun cdv A outer s H E C hK hcl hr bd => by
    subst hcl
    have nd := sc_has_lane.nd
    have hu64 := hr.units
    have hu65 : (A.deeper (envOfC "has_lane" (defScope s_has_lane) s.heap.objs.size T.a_has_lane cdv)).units + 65 < cLine := by have := hr.un; omega
    exact (dss_cons (ds_expr (dv_call (ok_check_guard T) (L2.Room.mono (j := 2) hr (by decide)) bd.gu bd.tk hK.symm T.mg_check_guard T.F_check_guard.kp T.b_check_guard (dl_pv (dv_var 0) dl_nil)))
      (dss_cons (ds_ret (dv_call (ok_has T) (L2.Room.mono (j := 1) hr (by decide)) bd.gu bd.tk hK.symm T.mg_has T.F_has.kp T.b_has (dl_pv (dv_var 0) (dl_pv (dv_var 1) dl_nil))))
      dss_nil))
theorem sc_lane_at : FnScope ["guard", "number"] ["guard", "number"] (defScope s_lane_at) := ⟨rfl, rfl, rfl, by decide +kernel, rfl, by decide +kernel, by decide +kernel⟩
theorem ok_lane_at (T : Txt K mg) : FnP P w K mg base cl 2 T.a_lane_at T.fd_lane_at ["guard", "number"] PM.m_lane_at :=
  fnp (N := ["guard", "number"]) (ps := ["guard", "number"]) (k := 1) T.F_lane_at sc_lane_at rfl fun cdv A outer s H E C hK hcl hr bd => by
    subst hcl
    have nd := sc_lane_at.nd
    have hu64 := hr.units
    have hu65 : (A.deeper (envOfC "lane_at" (defScope s_lane_at) s.heap.objs.size T.a_lane_at cdv)).units + 65 < cLine := by have := hr.un; omega
    exact (dss_cons (ds_ret (dv_op op_addA (d_add hK.symm) (dv_call (ok_first_of T) (L2.Room.mono (j := 1) hr (by decide)) bd.gu bd.tk hK.symm T.mg_first_of T.F_first_of.kp T.b_first_of (dl_pv (dv_var 0) dl_nil)) (dv_op op_mulA d_mul (dv_ix hK.symm (dv_var 0) dv_int (fun _ _ => rfl)) (dv_var 1))))
      dss_nil)
theorem sc_nth_lane : FnScope ["guard", "number"] ["guard", "number"] (defScope s_nth_lane) := ⟨rfl, rfl, rfl, by decide +kernel, rfl, by decide +kernel, by decide +kernel⟩
theorem ok_nth_lane (T : Txt K mg) : FnP P w K mg base cl 3 T.a_nth_lane T.fd_nth_lane ["guard", "number"] PM.m_nth_lane :=
  fnp (N := ["guard", "number"]) (ps := ["guard", "number"]) (k := 2) T.F_nth_lane sc_nth_lane rfl fun cdv A outer s H E C hK hcl hr bd => by
    subst hcl
    have nd := sc_nth_lane.nd
    have hu64 := hr.units
    have hu65 : (A.deeper (envOfC "nth_lane" (defScope s_nth_lane) s.heap.objs.size T.a_nth_lane cdv)).units + 65 < cLine := by have := hr.un; omega
    exact (dss_cons (ds_expr (dv_call (ok_check_guard T) (L2.Room.mono (j := 2) hr (by decide)) bd.gu bd.tk hK.symm T.mg_check_guard T.F_check_guard.kp T.b_check_guard (dl_pv (dv_var 0) dl_nil)))
      (dss_cons (ds_if (dt_not (dt_chain op_le op_lt d_le d_lt dv_int (dv_var 1) (dv_call (ok_lanes_of T) (L2.Room.mono (j := 2) hr (by decide)) bd.gu bd.tk hK.symm T.mg_lanes_of T.F_lanes_of.kp T.b_lanes_of (dl_pv (dv_var 0) dl_nil))))
      (dss_cons ds_never
      dss_nil)
      dss_nil)
      (dss_cons (ds_ret (dv_call (ok_lane_at T) (L2.Room.mono (j := 2) hr (by decide)) bd.gu bd.tk hK.symm T.mg_lane_at T.F_lane_at.kp T.b_lane_at (dl_pv (dv_var 0) (dl_pv (dv_var 1) dl_nil))))
      dss_nil)))
theorem sc__law_counts_right : FnScope ["source", "row", "many", "first", "last", "spot", "middle", "parts", "part"] ["source", "row"] (defScope s__law_counts_right) := ⟨rfl, rfl, rfl, by decide +kernel, rfl, by decide +kernel, by decide +kernel⟩
theorem ok__law_counts_right (T : Txt K mg) : FnP P w K mg base cl 4 T.a__law_counts_right T.fd__law_counts_right ["source", "row"] m__law_counts_right :=
  fnp (N := ["source", "row", "many", "first", "last", "spot", "middle", "parts", "part"]) (ps := ["source", "row"]) (k := 3) T.F__law_counts_right sc__law_counts_right rfl fun cdv A outer s H E C hK hcl hr bd => by
    subst hcl
    have nd := sc__law_counts_right.nd
    have hu64 := hr.units
    have hu65 : (A.deeper (envOfC "_law_counts_right" (defScope s__law_counts_right) s.heap.objs.size T.a__law_counts_right cdv)).units + 65 < cLine := by have := hr.un; omega
    exact (dss_cons (ds_set (i := 2) nd rfl (Or.inl rfl) (dv_call (ok_count_lanes T) (L2.Room.mono (j := 3) hr (by decide)) bd.gu bd.tk hK.symm T.mg_count_lanes T.F_count_lanes.kp T.b_count_lanes (dl_pv (dv_var 1) dl_nil)))
      (dss_cons (ds_par (i := 3) (j := 4) bd.calm nd rfl rfl (by decide) rfl rfl (da_cons (dv_call (ok_nth_lane T) (L2.Room.mono (j := 3) hr (by decide)) bd.gu bd.tk hK.symm T.mg_nth_lane T.F_nth_lane.kp T.b_nth_lane (dl_pv (dv_var 1) (dl_pv dv_int dl_nil))) (da_cons (dv_call (ok_nth_lane T) (L2.Room.mono (j := 3) hr (by decide)) bd.gu bd.tk hK.symm T.mg_nth_lane T.F_nth_lane.kp T.b_nth_lane (dl_pv (dv_var 1) (dl_pv (dv_op op_sub d_sub (dv_var 2) dv_int) dl_nil))) da_nil)) rfl)
      (dss_cons (ds_if (dt_of (dw_or (dt_cmp op_ge d_ge (dv_op op_sub d_sub (dv_var 3) (dv_ix hK.symm (dv_var 1) dv_int (fun _ _ => rfl))) (dv_ix hK.symm (dv_var 1) dv_int (fun _ _ => rfl)) (by rfl)) (dw_or (dt_cmp op_lt d_lt (dv_op op_addA (d_add hK.symm) (dv_var 4) (dv_ix hK.symm (dv_var 1) dv_int (fun _ _ => rfl))) (dv_ix hK.symm (dv_var 1) dv_int (fun _ _ => rfl)) (by rfl)) (dw_or1 (dt_cmp (op_neD hu64) (d_ne hK.symm) (dv_op op_sub d_sub (dv_var 4) (dv_var 3)) (dv_op op_mulA d_mul (dv_ix hK.symm (dv_var 1) dv_int (fun _ _ => rfl)) (dv_op op_sub d_sub (dv_var 2) dv_int)) (by rfl))))))
      (dss_cons (ds_ret dv_bl)
      dss_nil)
      dss_nil)
      (dss_cons (ds_set (i := 5) nd rfl (Or.inl rfl) (dv_call (ok__law_draw T) (L2.Room.mono (j := 1) hr (by decide)) bd.gu bd.tk hK.symm T.mg__law_draw T.F__law_draw.kp T.b__law_draw (dl_sl 0 (dl_pv (dv_var 2) dl_nil))))
      (dss_cons (ds_if (dt_of (dw_or (dt_cmp (op_neD hu64) (d_ne hK.symm) (dv_call (ok_nth_lane T) (L2.Room.mono (j := 3) hr (by decide)) bd.gu bd.tk hK.symm T.mg_nth_lane T.F_nth_lane.kp T.b_nth_lane (dl_pv (dv_var 1) (dl_pv (dv_var 5) dl_nil))) (dv_op op_addA (d_add hK.symm) (dv_var 3) (dv_op op_mulA d_mul (dv_ix hK.symm (dv_var 1) dv_int (fun _ _ => rfl)) (dv_var 5))) (by rfl)) (dw_or1 (dt_not (dt_tru hK.symm (dv_call (ok_has_lane T) (L2.Room.mono (j := 3) hr (by decide)) bd.gu bd.tk hK.symm T.mg_has_lane T.F_has_lane.kp T.b_has_lane (dl_pv (dv_var 1) (dl_pv (dv_call (ok_nth_lane T) (L2.Room.mono (j := 3) hr (by decide)) bd.gu bd.tk hK.symm T.mg_nth_lane T.F_nth_lane.kp T.b_nth_lane (dl_pv (dv_var 1) (dl_pv (dv_var 5) dl_nil))) dl_nil))))))))
      (dss_cons (ds_ret dv_bl)
      dss_nil)
      dss_nil)
      (dss_cons (ds_set (i := 6) nd rfl (Or.inl rfl) (dv_op op_addA (d_add hK.symm) (dv_ix hK.symm (dv_var 1) dv_int (fun _ _ => rfl)) (dv_call (ok__law_draw T) (L2.Room.mono (j := 1) hr (by decide)) bd.gu bd.tk hK.symm T.mg__law_draw T.F__law_draw.kp T.b__law_draw (dl_sl 0 (dl_pv (dv_op op_addA (d_add hK.symm) (dv_op op_sub d_sub (dv_ix hK.symm (dv_var 1) dv_int (fun _ _ => rfl)) (dv_ix hK.symm (dv_var 1) dv_int (fun _ _ => rfl))) dv_int) dl_nil)))))
      (dss_cons (ds_set (i := 7) nd rfl (Or.inl rfl) (dv_frz (do_lst (da_cons (dv_tup (da_cons (dv_ix hK.symm (dv_var 1) dv_int (fun _ _ => rfl)) (da_cons (dv_var 6) (da_cons (dv_ix hK.symm (dv_var 1) dv_int (fun _ _ => rfl)) (da_cons (dv_ix hK.symm (dv_var 1) dv_int (fun _ _ => rfl)) da_nil))))) (da_cons (dv_tup (da_cons (dv_var 6) (da_cons (dv_ix hK.symm (dv_var 1) dv_int (fun _ _ => rfl)) (da_cons (dv_ix hK.symm (dv_var 1) dv_int (fun _ _ => rfl)) (da_cons (dv_ix hK.symm (dv_var 1) dv_int (fun _ _ => rfl)) da_nil))))) da_nil)))))
      (dss_cons (ds_if (dt_cmp (op_neD hu64) (d_ne hK.symm) (dv_callB (cr_sum bd.calm) (c_sum hK.symm) rfl T.z_sum (by decide +kernel) (da_cons (dv_frz (do_lc (own := [("part", 8)]) bd.calm nd (blkOk_by (N := ["source", "row", "many", "first", "last", "spot", "middle", "parts", "part"]) (sc := defScope s__law_counts_right) (by decide +kernel)) (di_any hK.symm (dv_var 7)) (fun _ _ _ _ _ => by exact (dg_name (i := 8) nd rfl (by first | exact Or.inl rfl | exact Or.inr rfl) (hv := by rfl))) (fun _ _ _ _ _ => by exact dts_nil) (fun _ _ _ _ _ => by exact (dv_call (ok_count_lanes T) (by exact (L2.Room.mono (j := 3) hr (by decide))) (by exact bd.gu) takes0 hK.symm T.mg_count_lanes T.F_count_lanes.kp T.b_count_lanes (dl_pv (dv_var 8) dl_nil))))) da_nil)) (dv_var 2) (by rfl))
      (dss_cons (ds_ret dv_bl)
      dss_nil)
      dss_nil)
      (dss_cons (ds_ret (dv_cmp (op_eqD hu64) (d_eq hK.symm) (dv_call (ok_has_lane T) (L2.Room.mono (j := 3) hr (by decide)) bd.gu bd.tk hK.symm T.mg_has_lane T.F_has_lane.kp T.b_has_lane (dl_pv (dv_var 1) (dl_pv (dv_var 6) dl_nil))) (dv_and hK.symm (dv_chain op_le op_lt d_le d_lt (dv_ix hK.symm (dv_var 1) dv_int (fun _ _ => rfl)) (dv_var 6) (dv_ix hK.symm (dv_var 1) dv_int (fun _ _ => rfl))) (dv_one (dv_cmp (op_eqD hu64) (d_eq hK.symm) (dv_op op_modN d_mod (dv_var 6) (dv_ix hK.symm (dv_var 1) dv_int (fun _ _ => rfl))) (dv_ix hK.symm (dv_var 1) dv_int (fun _ _ => rfl)) (by rfl)))) (by rfl)))
      dss_nil)))))))))
theorem sc__law_source : FnScope ["script", "digits", "seed", "one"] ["script"] (defScope s__law_source) := ⟨rfl, rfl, rfl, by decide +kernel, rfl, by decide +kernel, by decide +kernel⟩
theorem ok__law_source (T : Txt K mg) : FnP P w K mg base cl 1 T.a__law_source T.fd__law_source ["script"] PM.m__law_source :=
  fnp (N := ["script", "digits", "seed", "one"]) (ps := ["script"]) (k := 0) T.F__law_source sc__law_source rfl fun cdv A outer s H E C hK hcl hr bd => by
    subst hcl
    have nd := sc__law_source.nd
    have hu64 := hr.units
    have hu65 : (A.deeper (envOfC "_law_source" (defScope s__law_source) s.heap.objs.size T.a__law_source cdv)).units + 65 < cLine := by have := hr.un; omega
    exact (dss_cons (ds_asg (dv_tup (da_cons dv_int (da_cons dv_int da_nil))) (dg_tup (n := 2) hK.symm bd.calm (dgs_cons (dg_name (i := 1) nd rfl (Or.inl rfl)) (dgs_cons (dg_name (i := 2) nd rfl (Or.inl rfl)) dgs_nil))))
      (dss_cons (ds_for bd.own bd.calm (di_any hK.symm (dv_sl hK.symm (dv_var 0) dp_none (dp_some dv_int))) (dg_name (i := 3) nd rfl (Or.inl rfl))
      (dss_cons (ds_if (dt_cmp op_ge d_ge (dv_callB call_abs c_abs rfl T.z_abs (by decide +kernel) (da_cons (dv_var 3) da_nil)) (dv_op op_powA d_pow dv_int dv_int) (by rfl))
      (dss_cons (ds_set (i := 1) nd rfl (Or.inl rfl) (dv_op op_addA (d_add hK.symm) (dv_op op_mulA d_mul (dv_var 1) (dv_op op_powA d_pow dv_int dv_int)) (dv_op op_modN d_mod (dv_callB call_abs c_abs rfl T.z_abs (by decide +kernel) (da_cons (dv_var 3) da_nil)) (dv_op op_powA d_pow dv_int dv_int))))
      dss_nil)
      dss_nil)
      (dss_cons (ds_set (i := 2) nd rfl (Or.inl rfl) (dv_op op_modN d_mod (dv_op op_addA (d_add hK.symm) (dv_op op_addA (d_add hK.symm) (dv_op op_mulA d_mul (dv_var 2) dv_int) (dv_op op_modN d_mod (dv_var 3) dv_int)) dv_int) dv_int))
      dss_nil)))
      (dss_cons (ds_retO (do_lst (da_cons (dv_var 1) (da_cons (dv_var 2) (da_cons dv_int da_nil)))))
      dss_nil)))
theorem sc_bezout : FnScope ["one", "other", "first", "second", "x", "y", "times"] ["one", "other"] (defScope s_bezout) := ⟨rfl, rfl, rfl, by decide +kernel, rfl, by decide +kernel, by decide +kernel⟩
theorem ok_bezout (T : Txt K mg) : FnP P w K mg base cl 1 T.a_bezout T.fd_bezout ["one", "other"] PM.m_bezout :=
  fnp (N := ["one", "other", "first", "second", "x", "y", "times"]) (ps := ["one", "other"]) (k := 0) T.F_bezout sc_bezout rfl fun cdv A outer s H E C hK hcl hr bd => by
    subst hcl
    have nd := sc_bezout.nd
    have hu64 := hr.units
    have hu65 : (A.deeper (envOfC "bezout" (defScope s_bezout) s.heap.objs.size T.a_bezout cdv)).units + 65 < cLine := by have := hr.un; omega
    exact (dss_cons (ds_asg (dv_tup (da_cons (dv_var 0) (da_cons (dv_var 1) (da_cons dv_int (da_cons dv_int da_nil))))) (dg_tup (n := 4) hK.symm bd.calm (dgs_cons (dg_name (i := 2) nd rfl (Or.inl rfl)) (dgs_cons (dg_name (i := 3) nd rfl (Or.inl rfl)) (dgs_cons (dg_name (i := 4) nd rfl (Or.inl rfl)) (dgs_cons (dg_name (i := 5) nd rfl (Or.inl rfl)) dgs_nil))))))
      (dss_cons (ds_while bd.own (dt_cmp (op_neD hu64) (d_ne hK.symm) (dv_var 3) dv_int (by rfl))
      (dss_cons (ds_set (i := 6) nd rfl (Or.inl rfl) (dv_op op_fdivA d_fdiv (dv_var 2) (dv_var 3)))
      (dss_cons (ds_par (i := 2) (j := 3) bd.calm nd rfl rfl (by decide) rfl rfl (da_cons (dv_var 3) (da_cons (dv_op op_sub d_sub (dv_var 2) (dv_op op_mulA d_mul (dv_var 6) (dv_var 3))) da_nil)) rfl)
      (dss_cons (ds_par (i := 4) (j := 5) bd.calm nd rfl rfl (by decide) rfl rfl (da_cons (dv_var 5) (da_cons (dv_op op_sub d_sub (dv_var 4) (dv_op op_mulA d_mul (dv_var 6) (dv_var 5))) da_nil)) rfl)
      dss_nil))))
      (dss_cons (ds_ret (dv_if (dt_cmp op_ge d_ge (dv_var 2) dv_int (by rfl)) (dv_tup (da_cons (dv_var 2) (da_cons (dv_var 4) da_nil))) (dv_tup (da_cons (dv_un un_neg d_neg (dv_var 2)) (da_cons (dv_un un_neg d_neg (dv_var 4)) da_nil)))))
      dss_nil)))
theorem sc_meeting : FnScope ["guard", "other", "divisor", "factor", "apart", "step", "rest", "found"] ["guard", "other"] (defScope s_meeting) := ⟨rfl, rfl, rfl, by decide +kernel, rfl, by decide +kernel, by decide +kernel⟩
theorem ok_meeting (T : Txt K mg) : FnP P w K mg base cl 3 T.a_meeting T.fd_meeting ["guard", "other"] PM.m_meeting :=
  fnp (N := ["guard", "other", "divisor", "factor", "apart", "step", "rest", "found"]) (ps := ["guard", "other"]) (k := 2) T.F_meeting sc_meeting rfl fun cdv A outer s H E C hK hcl hr bd => by
    subst hcl
    have nd := sc_meeting.nd
    have hu64 := hr.units
    have hu65 : (A.deeper (envOfC "meeting" (defScope s_meeting) s.heap.objs.size T.a_meeting cdv)).units + 65 < cLine := by have := hr.un; omega
    exact (dss_cons (ds_asg (dv_call (ok_bezout T) (L2.Room.mono (j := 1) hr (by decide)) bd.gu bd.tk hK.symm T.mg_bezout T.F_bezout.kp T.b_bezout (dl_pv (dv_ix hK.symm (dv_var 0) dv_int (fun _ _ => rfl)) (dl_pv (dv_ix hK.symm (dv_var 1) dv_int (fun _ _ => rfl)) dl_nil))) (dg_tup (n := 2) hK.symm bd.calm (dgs_cons (dg_name (i := 2) nd rfl (Or.inl rfl)) (dgs_cons (dg_name (i := 3) nd rfl (Or.inl rfl)) dgs_nil))))
      (dss_cons (ds_set (i := 4) nd rfl (Or.inl rfl) (dv_op op_sub d_sub (dv_ix hK.symm (dv_var 1) dv_int (fun _ _ => rfl)) (dv_ix hK.symm (dv_var 0) dv_int (fun _ _ => rfl))))
      (dss_cons (ds_if (dt_cmp (op_neD hu64) (d_ne hK.symm) (dv_op op_modN d_mod (dv_var 4) (dv_var 2)) dv_int (by rfl))
      (dss_cons (ds_ret dv_non)
      dss_nil)
      dss_nil)
      (dss_cons (ds_set (i := 5) nd rfl (Or.inl rfl) (dv_op op_mulA d_mul (dv_op op_fdivA d_fdiv (dv_ix hK.symm (dv_var 0) dv_int (fun _ _ => rfl)) (dv_var 2)) (dv_ix hK.symm (dv_var 1) dv_int (fun _ _ => rfl))))
      (dss_cons (ds_set (i := 6) nd rfl (Or.inl rfl) (dv_op op_modN d_mod (dv_op op_addA (d_add hK.symm) (dv_ix hK.symm (dv_var 0) dv_int (fun _ _ => rfl)) (dv_op op_mulA d_mul (dv_ix hK.symm (dv_var 0) dv_int (fun _ _ => rfl)) (dv_op op_mulA d_mul (dv_op op_fdivA d_fdiv (dv_var 4) (dv_var 2)) (dv_var 3)))) (dv_var 5)))
      (dss_cons (ds_set (i := 7) nd rfl (Or.inl rfl) (dv_tup (da_cons (dv_callB (call_max2 bd.calm) c_max2 rfl T.z_max (by decide +kernel) (da_cons (dv_ix hK.symm (dv_var 0) dv_int (fun _ _ => rfl)) (da_cons (dv_ix hK.symm (dv_var 1) dv_int (fun _ _ => rfl)) da_nil))) (da_cons (dv_callB (call_min2 bd.calm) c_min2 rfl T.z_min (by decide +kernel) (da_cons (dv_ix hK.symm (dv_var 0) dv_int (fun _ _ => rfl)) (da_cons (dv_ix hK.symm (dv_var 1) dv_int (fun _ _ => rfl)) da_nil))) (da_cons (dv_var 5) (da_cons (dv_var 6) da_nil))))))
      (dss_cons (ds_ret (dv_if (dt_of (dw_and (dt_cmp op_lt d_lt (dv_ix hK.symm (dv_var 7) dv_int (fun _ _ => rfl)) (dv_ix hK.symm (dv_var 7) dv_int (fun _ _ => rfl)) (by rfl)) (dw_and1 (dt_cmp op_gt d_gt (dv_call (ok_lanes_of T) (L2.Room.mono (j := 2) hr (by decide)) bd.gu bd.tk hK.symm T.mg_lanes_of T.F_lanes_of.kp T.b_lanes_of (dl_pv (dv_var 7) dl_nil)) dv_int (by rfl))))) (dv_var 7) dv_non))
      dss_nil)))))))
theorem sc_met : FnScope ["guard", "other"] ["guard", "other"] (defScope s_met) := ⟨rfl, rfl, rfl, by decide +kernel, rfl, by decide +kernel, by decide +kernel⟩
theorem ok_met (T : Txt K mg) : FnP P w K mg base cl 4 T.a_met T.fd_met ["guard", "other"] PM.m_met :=
  fnp (N := ["guard", "other"]) (ps := ["guard", "other"]) (k := 3) T.F_met sc_met rfl fun cdv A outer s H E C hK hcl hr bd => by
    subst hcl
    have nd := sc_met.nd
    have hu64 := hr.units
    have hu65 : (A.deeper (envOfC "met" (defScope s_met) s.heap.objs.size T.a_met cdv)).units + 65 < cLine := by have := hr.un; omega
    exact (dss_cons (ds_expr (dv_call (ok_check_guard T) (L2.Room.mono (j := 2) hr (by decide)) bd.gu bd.tk hK.symm T.mg_check_guard T.F_check_guard.kp T.b_check_guard (dl_pv (dv_var 0) dl_nil)))
      (dss_cons (ds_expr (dv_call (ok_check_guard T) (L2.Room.mono (j := 2) hr (by decide)) bd.gu bd.tk hK.symm T.mg_check_guard T.F_check_guard.kp T.b_check_guard (dl_pv (dv_var 1) dl_nil)))
      (dss_cons (ds_ret (dv_call (ok_meeting T) (L2.Room.mono (j := 3) hr (by decide)) bd.gu bd.tk hK.symm T.mg_meeting T.F_meeting.kp T.b_meeting (dl_pv (dv_var 0) (dl_pv (dv_var 1) dl_nil))))
      dss_nil)))
theorem sc_law : FnScope ["script", "source", "turn", "left", "right", "both", "spot", "one", "odd"] ["script"] (defScope s_law) := ⟨rfl, rfl, rfl, by decide +kernel, rfl, by decide +kernel, by decide +kernel⟩
theorem ok_law (T : Txt K mg) : FnP P w K mg base cl 5 T.a_law T.fd_law ["script"] m_law :=
  fnp (N := ["script", "source", "turn", "left", "right", "both", "spot", "one", "odd"]) (ps := ["script"]) (k := 4) T.F_law sc_law rfl fun cdv A outer s H E C hK hcl hr bd => by
    subst hcl
    have nd := sc_law.nd
    have hu64 := hr.units
    have hu65 : (A.deeper (envOfC "law" (defScope s_law) s.heap.objs.size T.a_law cdv)).units + 65 < cLine := by have := hr.un; omega
    exact (dss_cons (ds_setO (i := 1) nd rfl (Or.inl rfl) (do_call (ok__law_source T) (L2.Room.mono (j := 1) hr (by decide)) bd.gu bd.tk hK.symm T.mg__law_source T.F__law_source.kp T.b__law_source (dl_pv (dv_var 0) dl_nil)))
      (dss_cons (ds_for bd.own bd.calm (di_range1 rfl T.z_range (da_cons (dv_op op_addA (d_add hK.symm) dv_int (dv_callB (call_min2 bd.calm) c_min2 rfl T.z_min (by decide +kernel) (da_cons dv_int (da_cons (dv_callB call_len (c_len hK.symm) rfl T.z_len (by decide +kernel) (da_cons (dv_var 0) da_nil)) da_nil)))) da_nil)) (dg_name (i := 2) nd rfl (Or.inl rfl))
      (dss_cons (ds_asg (dv_call (ok__law_common T) (L2.Room.mono (j := 2) hr (by decide)) bd.gu bd.tk hK.symm T.mg__law_common T.F__law_common.kp T.b__law_common (dl_sl 1 dl_nil)) (dg_lst (n := 5) hK.symm bd.calm (dgs_cons (dg_name (i := 3) nd rfl (Or.inl rfl)) (dgs_cons (dg_name (i := 4) nd rfl (Or.inl rfl)) (dgs_cons (dg_name (i := 5) nd rfl (Or.inl rfl)) (dgs_cons (dg_name (i := 6) nd rfl (Or.inl rfl)) (dgs_cons (dg_name (i := 7) nd rfl (Or.inl rfl)) dgs_nil)))))))
      (dss_cons (ds_if (dt_of (dw_or (dt_cmp (op_neD hu64) (d_ne hK.symm) (dv_call (ok_met T) (L2.Room.mono (j := 4) hr (by decide)) bd.gu bd.tk hK.symm T.mg_met T.F_met.kp T.b_met (dl_pv (dv_var 3) (dl_pv (dv_var 4) dl_nil))) (dv_var 5) (by rfl)) (dw_or (dt_cmp (op_neD hu64) (d_ne hK.symm) (dv_call (ok_met T) (L2.Room.mono (j := 4) hr (by decide)) bd.gu bd.tk hK.symm T.mg_met T.F_met.kp T.b_met (dl_pv (dv_var 4) (dl_pv (dv_var 3) dl_nil))) (dv_var 5) (by rfl)) (dw_or1 (dt_not (dt_tru hK.symm (dv_call (ok_has_lane T) (L2.Room.mono (j := 3) hr (by decide)) bd.gu bd.tk hK.symm T.mg_has_lane T.F_has_lane.kp T.b_has_lane (dl_pv (dv_var 5) (dl_pv (dv_var 6) dl_nil)))))))))
      (dss_cons (ds_ret dv_bl)
      dss_nil)
      dss_nil)
      (dss_cons (ds_if (dt_of (dw_or (dt_not (dt_tru hK.symm (dv_call (ok__law_counts_right T) (L2.Room.mono (j := 4) hr (by decide)) bd.gu bd.tk hK.symm T.mg__law_counts_right T.F__law_counts_right.kp T.b__law_counts_right (dl_sl 1 (dl_pv (dv_var 3) dl_nil))))) (dw_or1 (dt_not (dt_tru hK.symm (dv_call (ok__law_counts_right T) (L2.Room.mono (j := 4) hr (by decide)) bd.gu bd.tk hK.symm T.mg__law_counts_right T.F__law_counts_right.kp T.b__law_counts_right (dl_sl 1 (dl_pv (dv_var 5) dl_nil))))))))
      (dss_cons (ds_ret dv_bl)
      dss_nil)
      dss_nil)
      (dss_cons (ds_if (dt_cmp op_gt d_gt (dv_var 7) dv_int (by rfl))
      (dss_cons (ds_set (i := 8) nd rfl (Or.inl rfl) (dv_tup (da_cons (dv_ix hK.symm (dv_var 4) dv_int (fun _ _ => rfl)) (da_cons (dv_ix hK.symm (dv_var 4) dv_int (fun _ _ => rfl)) (da_cons (dv_ix hK.symm (dv_var 4) dv_int (fun _ _ => rfl)) (da_cons (dv_op op_modN d_mod (dv_op op_addA (d_add hK.symm) (dv_op op_addA (d_add hK.symm) (dv_ix hK.symm (dv_var 4) dv_int (fun _ _ => rfl)) dv_int) (dv_call (ok__law_draw T) (L2.Room.mono (j := 1) hr (by decide)) bd.gu bd.tk hK.symm T.mg__law_draw T.F__law_draw.kp T.b__law_draw (dl_sl 1 (dl_pv (dv_op op_sub d_sub (dv_var 7) dv_int) dl_nil)))) (dv_ix hK.symm (dv_var 4) dv_int (fun _ _ => rfl))) da_nil))))))
      (dss_cons (ds_if (dt_of (dw_and (dt_cmp (op_neD hu64) (d_ne hK.symm) (dv_op op_modN d_mod (dv_ix hK.symm (dv_var 8) dv_int (fun _ _ => rfl)) (dv_var 7)) (dv_op op_modN d_mod (dv_ix hK.symm (dv_var 3) dv_int (fun _ _ => rfl)) (dv_var 7)) (by rfl)) (dw_and1 (dt_cmp op_notN d_isnot (dv_call (ok_met T) (L2.Room.mono (j := 4) hr (by decide)) bd.gu bd.tk hK.symm T.mg_met T.F_met.kp T.b_met (dl_pv (dv_var 3) (dl_pv (dv_var 8) dl_nil))) dv_non (by rfl)))))
      (dss_cons (ds_ret dv_bl)
      dss_nil)
      dss_nil)
      dss_nil))
      dss_nil)
      dss_nil)))))
      (dss_cons (ds_ret (dv_cmp (op_eqD hu64) (d_eq hK.symm) (dv_call (ok_count_lanes T) (L2.Room.mono (j := 3) hr (by decide)) bd.gu bd.tk hK.symm T.mg_count_lanes T.F_count_lanes.kp T.b_count_lanes (dl_pv (dv_tup (da_cons dv_int (da_cons (dv_op op_powA d_pow dv_int dv_int) (da_cons dv_int (da_cons dv_int da_nil))))) dl_nil)) (dv_op op_fdivA d_fdiv (dv_op op_sub d_sub (dv_op op_powA d_pow dv_int dv_int) dv_int) dv_int) (by rfl)))
      dss_nil)))
end
/-! ### the end -/
def txt_of {K : PySem.W.Frag} {h : Heap} {mg : Str → Option Value} (X : K.In h) (G : h.Ns mainGlobals mg)
    {f0 : Addr} {oc0 kV0 dc0 pm0 cd0 ct0 : Value} {od0 an0 : Option Addr} {sl0 : Array (Option Value)} (a0 : PySem.W.nsIn K mainGlobals "_law_draw" = some (some (.ref f0))) (l0 : K.lookup f0 = some ⟨oc0, od0, .func (PySem.W.fnOf "_law_draw" "_law_draw" (defArgs s__law_draw) (defBody s__law_draw) (defScope s__law_draw) .none kV0 dc0 pm0 an0 cd0 ct0), sl0⟩) (c0 : PySem.W.codeIn K cd0 "_law_draw" = true) (k0 : PySem.W.keepIn K (.ref f0) = true)
    {f1 : Addr} {oc1 kV1 dc1 pm1 cd1 ct1 : Value} {od1 an1 : Option Addr} {sl1 : Array (Option Value)} (a1 : PySem.W.nsIn K mainGlobals "_law_common" = some (some (.ref f1))) (l1 : K.lookup f1 = some ⟨oc1, od1, .func (PySem.W.fnOf "_law_common" "_law_common" (defArgs s__law_common) (defBody s__law_common) (defScope s__law_common) .none kV1 dc1 pm1 an1 cd1 ct1), sl1⟩) (c1 : PySem.W.codeIn K cd1 "_law_common" = true) (k1 : PySem.W.keepIn K (.ref f1) = true)
    {f2 : Addr} {oc2 kV2 dc2 pm2 cd2 ct2 : Value} {od2 an2 : Option Addr} {sl2 : Array (Option Value)} (a2 : PySem.W.nsIn K mainGlobals "is_guard" = some (some (.ref f2))) (l2 : K.lookup f2 = some ⟨oc2, od2, .func (PySem.W.fnOf "is_guard" "is_guard" (defArgs s_is_guard) (defBody s_is_guard) (defScope s_is_guard) .none kV2 dc2 pm2 an2 cd2 ct2), sl2⟩) (c2 : PySem.W.codeIn K cd2 "is_guard" = true) (k2 : PySem.W.keepIn K (.ref f2) = true)
    {f3 : Addr} {oc3 kV3 dc3 pm3 cd3 ct3 : Value} {od3 an3 : Option Addr} {sl3 : Array (Option Value)} (a3 : PySem.W.nsIn K mainGlobals "check_guard" = some (some (.ref f3))) (l3 : K.lookup f3 = some ⟨oc3, od3, .func (PySem.W.fnOf "check_guard" "check_guard" (defArgs s_check_guard) (defBody s_check_guard) (defScope s_check_guard) .none kV3 dc3 pm3 an3 cd3 ct3), sl3⟩) (c3 : PySem.W.codeIn K cd3 "check_guard" = true) (k3 : PySem.W.keepIn K (.ref f3) = true)
    {f4 : Addr} {oc4 kV4 dc4 pm4 cd4 ct4 : Value} {od4 an4 : Option Addr} {sl4 : Array (Option Value)} (a4 : PySem.W.nsIn K mainGlobals "first_of" = some (some (.ref f4))) (l4 : K.lookup f4 = some ⟨oc4, od4, .func (PySem.W.fnOf "first_of" "first_of" (defArgs s_first_of) (defBody s_first_of) (defScope s_first_of) .none kV4 dc4 pm4 an4 cd4 ct4), sl4⟩) (c4 : PySem.W.codeIn K cd4 "first_of" = true) (k4 : PySem.W.keepIn K (.ref f4) = true)
    {f5 : Addr} {oc5 kV5 dc5 pm5 cd5 ct5 : Value} {od5 an5 : Option Addr} {sl5 : Array (Option Value)} (a5 : PySem.W.nsIn K mainGlobals "lanes_of" = some (some (.ref f5))) (l5 : K.lookup f5 = some ⟨oc5, od5, .func (PySem.W.fnOf "lanes_of" "lanes_of" (defArgs s_lanes_of) (defBody s_lanes_of) (defScope s_lanes_of) .none kV5 dc5 pm5 an5 cd5 ct5), sl5⟩) (c5 : PySem.W.codeIn K cd5 "lanes_of" = true) (k5 : PySem.W.keepIn K (.ref f5) = true)
    {f6 : Addr} {oc6 kV6 dc6 pm6 cd6 ct6 : Value} {od6 an6 : Option Addr} {sl6 : Array (Option Value)} (a6 : PySem.W.nsIn K mainGlobals "count_lanes" = some (some (.ref f6))) (l6 : K.lookup f6 = some ⟨oc6, od6, .func (PySem.W.fnOf "count_lanes" "count_lanes" (defArgs s_count_lanes) (defBody s_count_lanes) (defScope s_count_lanes) .none kV6 dc6 pm6 an6 cd6 ct6), sl6⟩) (c6 : PySem.W.codeIn K cd6 "count_lanes" = true) (k6 : PySem.W.keepIn K (.ref f6) = true)
    {f7 : Addr} {oc7 kV7 dc7 pm7 cd7 ct7 : Value} {od7 an7 : Option Addr} {sl7 : Array (Option Value)} (a7 : PySem.W.nsIn K mainGlobals "has" = some (some (.ref f7))) (l7 : K.lookup f7 = some ⟨oc7, od7, .func (PySem.W.fnOf "has" "has" (defArgs s_has) (defBody s_has) (defScope s_has) .none kV7 dc7 pm7 an7 cd7 ct7), sl7⟩) (c7 : PySem.W.codeIn K cd7 "has" = true) (k7 : PySem.W.keepIn K (.ref f7) = true)
    {f8 : Addr} {oc8 kV8 dc8 pm8 cd8 ct8 : Value} {od8 an8 : Option Addr} {sl8 : Array (Option Value)} (a8 : PySem.W.nsIn K mainGlobals "has_lane" = some (some (.ref f8))) (l8 : K.lookup f8 = some ⟨oc8, od8, .func (PySem.W.fnOf "has_lane" "has_lane" (defArgs s_has_lane) (defBody s_has_lane) (defScope s_has_lane) .none kV8 dc8 pm8 an8 cd8 ct8), sl8⟩) (c8 : PySem.W.codeIn K cd8 "has_lane" = true) (k8 : PySem.W.keepIn K (.ref f8) = true)
    {f9 : Addr} {oc9 kV9 dc9 pm9 cd9 ct9 : Value} {od9 an9 : Option Addr} {sl9 : Array (Option Value)} (a9 : PySem.W.nsIn K mainGlobals "lane_at" = some (some (.ref f9))) (l9 : K.lookup f9 = some ⟨oc9, od9, .func (PySem.W.fnOf "lane_at" "lane_at" (defArgs s_lane_at) (defBody s_lane_at) (defScope s_lane_at) .none kV9 dc9 pm9 an9 cd9 ct9), sl9⟩) (c9 : PySem.W.codeIn K cd9 "lane_at" = true) (k9 : PySem.W.keepIn K (.ref f9) = true)
    {f10 : Addr} {oc10 kV10 dc10 pm10 cd10 ct10 : Value} {od10 an10 : Option Addr} {sl10 : Array (Option Value)} (a10 : PySem.W.nsIn K mainGlobals "nth_lane" = some (some (.ref f10))) (l10 : K.lookup f10 = some ⟨oc10, od10, .func (PySem.W.fnOf "nth_lane" "nth_lane" (defArgs s_nth_lane) (defBody s_nth_lane) (defScope s_nth_lane) .none kV10 dc10 pm10 an10 cd10 ct10), sl10⟩) (c10 : PySem.W.codeIn K cd10 "nth_lane" = true) (k10 : PySem.W.keepIn K (.ref f10) = true)
    {f11 : Addr} {oc11 kV11 dc11 pm11 cd11 ct11 : Value} {od11 an11 : Option Addr} {sl11 : Array (Option Value)} (a11 : PySem.W.nsIn K mainGlobals "_law_counts_right" = some (some (.ref f11))) (l11 : K.lookup f11 = some ⟨oc11, od11, .func (PySem.W.fnOf "_law_counts_right" "_law_counts_right" (defArgs s__law_counts_right) (defBody s__law_counts_right) (defScope s__law_counts_right) .none kV11 dc11 pm11 an11 cd11 ct11), sl11⟩) (c11 : PySem.W.codeIn K cd11 "_law_counts_right" = true) (k11 : PySem.W.keepIn K (.ref f11) = true)
    {f12 : Addr} {oc12 kV12 dc12 pm12 cd12 ct12 : Value} {od12 an12 : Option Addr} {sl12 : Array (Option Value)} (a12 : PySem.W.nsIn K mainGlobals "_law_source" = some (some (.ref f12))) (l12 : K.lookup f12 = some ⟨oc12, od12, .func (PySem.W.fnOf "_law_source" "_law_source" (defArgs s__law_source) (defBody s__law_source) (defScope s__law_source) .none kV12 dc12 pm12 an12 cd12 ct12), sl12⟩) (c12 : PySem.W.codeIn K cd12 "_law_source" = true) (k12 : PySem.W.keepIn K (.ref f12) = true)
    {f13 : Addr} {oc13 kV13 dc13 pm13 cd13 ct13 : Value} {od13 an13 : Option Addr} {sl13 : Array (Option Value)} (a13 : PySem.W.nsIn K mainGlobals "bezout" = some (some (.ref f13))) (l13 : K.lookup f13 = some ⟨oc13, od13, .func (PySem.W.fnOf "bezout" "bezout" (defArgs s_bezout) (defBody s_bezout) (defScope s_bezout) .none kV13 dc13 pm13 an13 cd13 ct13), sl13⟩) (c13 : PySem.W.codeIn K cd13 "bezout" = true) (k13 : PySem.W.keepIn K (.ref f13) = true)
    {f14 : Addr} {oc14 kV14 dc14 pm14 cd14 ct14 : Value} {od14 an14 : Option Addr} {sl14 : Array (Option Value)} (a14 : PySem.W.nsIn K mainGlobals "meeting" = some (some (.ref f14))) (l14 : K.lookup f14 = some ⟨oc14, od14, .func (PySem.W.fnOf "meeting" "meeting" (defArgs s_meeting) (defBody s_meeting) (defScope s_meeting) .none kV14 dc14 pm14 an14 cd14 ct14), sl14⟩) (c14 : PySem.W.codeIn K cd14 "meeting" = true) (k14 : PySem.W.keepIn K (.ref f14) = true)
    {f15 : Addr} {oc15 kV15 dc15 pm15 cd15 ct15 : Value} {od15 an15 : Option Addr} {sl15 : Array (Option Value)} (a15 : PySem.W.nsIn K mainGlobals "met" = some (some (.ref f15))) (l15 : K.lookup f15 = some ⟨oc15, od15, .func (PySem.W.fnOf "met" "met" (defArgs s_met) (defBody s_met) (defScope s_met) .none kV15 dc15 pm15 an15 cd15 ct15), sl15⟩) (c15 : PySem.W.codeIn K cd15 "met" = true) (k15 : PySem.W.keepIn K (.ref f15) = true)
    {f16 : Addr} {oc16 kV16 dc16 pm16 cd16 ct16 : Value} {od16 an16 : Option Addr} {sl16 : Array (Option Value)} (a16 : PySem.W.nsIn K mainGlobals "law" = some (some (.ref f16))) (l16 : K.lookup f16 = some ⟨oc16, od16, .func (PySem.W.fnOf "law" "law" (defArgs s_law) (defBody s_law) (defScope s_law) .none kV16 dc16 pm16 an16 cd16 ct16), sl16⟩) (c16 : PySem.W.codeIn K cd16 "law" = true) (k16 : PySem.W.keepIn K (.ref f16) = true)
    (z_abs : PySem.W.nsIn K mainGlobals "abs" = some none)
    (z_len : PySem.W.nsIn K mainGlobals "len" = some none)
    (z_max : PySem.W.nsIn K mainGlobals "max" = some none)
    (z_min : PySem.W.nsIn K mainGlobals "min" = some none)
    (z_range : PySem.W.nsIn K mainGlobals "range" = some none)
    (z_sum : PySem.W.nsIn K mainGlobals "sum" = some none) : Txt K mg :=
  ⟨f0, _, fun_mk (st := s__law_draw) l0 c0 k0, (fun_mk (st := s__law_draw) l0 c0 k0).binds (ps := ["source", "many"]) (fun _ _ _ _ _ _ us hl => match us, hl with | [_, _], _ => rfl), PySem.W.mg_of X G a0,
    f1, _, fun_mk (st := s__law_common) l1 c1 k1, (fun_mk (st := s__law_common) l1 c1 k1).binds (ps := ["source"]) (fun _ _ _ _ _ _ us hl => match us, hl with | [_], _ => rfl), PySem.W.mg_of X G a1,
    f2, _, fun_mk (st := s_is_guard) l2 c2 k2, (fun_mk (st := s_is_guard) l2 c2 k2).binds (ps := ["guard"]) (fun _ _ _ _ _ _ us hl => match us, hl with | [_], _ => rfl), PySem.W.mg_of X G a2,
    f3, _, fun_mk (st := s_check_guard) l3 c3 k3, (fun_mk (st := s_check_guard) l3 c3 k3).binds (ps := ["guard"]) (fun _ _ _ _ _ _ us hl => match us, hl with | [_], _ => rfl), PySem.W.mg_of X G a3,
    f4, _, fun_mk (st := s_first_of) l4 c4 k4, (fun_mk (st := s_first_of) l4 c4 k4).binds (ps := ["guard"]) (fun _ _ _ _ _ _ us hl => match us, hl with | [_], _ => rfl), PySem.W.mg_of X G a4,
    f5, _, fun_mk (st := s_lanes_of) l5 c5 k5, (fun_mk (st := s_lanes_of) l5 c5 k5).binds (ps := ["guard"]) (fun _ _ _ _ _ _ us hl => match us, hl with | [_], _ => rfl), PySem.W.mg_of X G a5,
    f6, _, fun_mk (st := s_count_lanes) l6 c6 k6, (fun_mk (st := s_count_lanes) l6 c6 k6).binds (ps := ["guard"]) (fun _ _ _ _ _ _ us hl => match us, hl with | [_], _ => rfl), PySem.W.mg_of X G a6,
    f7, _, fun_mk (st := s_has) l7 c7 k7, (fun_mk (st := s_has) l7 c7 k7).binds (ps := ["guard", "lane"]) (fun _ _ _ _ _ _ us hl => match us, hl with | [_, _], _ => rfl), PySem.W.mg_of X G a7,
    f8, _, fun_mk (st := s_has_lane) l8 c8 k8, (fun_mk (st := s_has_lane) l8 c8 k8).binds (ps := ["guard", "lane"]) (fun _ _ _ _ _ _ us hl => match us, hl with | [_, _], _ => rfl), PySem.W.mg_of X G a8,
    f9, _, fun_mk (st := s_lane_at) l9 c9 k9, (fun_mk (st := s_lane_at) l9 c9 k9).binds (ps := ["guard", "number"]) (fun _ _ _ _ _ _ us hl => match us, hl with | [_, _], _ => rfl), PySem.W.mg_of X G a9,
    f10, _, fun_mk (st := s_nth_lane) l10 c10 k10, (fun_mk (st := s_nth_lane) l10 c10 k10).binds (ps := ["guard", "number"]) (fun _ _ _ _ _ _ us hl => match us, hl with | [_, _], _ => rfl), PySem.W.mg_of X G a10,
    f11, _, fun_mk (st := s__law_counts_right) l11 c11 k11, (fun_mk (st := s__law_counts_right) l11 c11 k11).binds (ps := ["source", "row"]) (fun _ _ _ _ _ _ us hl => match us, hl with | [_, _], _ => rfl), PySem.W.mg_of X G a11,
    f12, _, fun_mk (st := s__law_source) l12 c12 k12, (fun_mk (st := s__law_source) l12 c12 k12).binds (ps := ["script"]) (fun _ _ _ _ _ _ us hl => match us, hl with | [_], _ => rfl), PySem.W.mg_of X G a12,
    f13, _, fun_mk (st := s_bezout) l13 c13 k13, (fun_mk (st := s_bezout) l13 c13 k13).binds (ps := ["one", "other"]) (fun _ _ _ _ _ _ us hl => match us, hl with | [_, _], _ => rfl), PySem.W.mg_of X G a13,
    f14, _, fun_mk (st := s_meeting) l14 c14 k14, (fun_mk (st := s_meeting) l14 c14 k14).binds (ps := ["guard", "other"]) (fun _ _ _ _ _ _ us hl => match us, hl with | [_, _], _ => rfl), PySem.W.mg_of X G a14,
    f15, _, fun_mk (st := s_met) l15 c15 k15, (fun_mk (st := s_met) l15 c15 k15).binds (ps := ["guard", "other"]) (fun _ _ _ _ _ _ us hl => match us, hl with | [_, _], _ => rfl), PySem.W.mg_of X G a15,
    f16, _, fun_mk (st := s_law) l16 c16 k16, (fun_mk (st := s_law) l16 c16 k16).binds (ps := ["script"]) (fun _ _ _ _ _ _ us hl => match us, hl with | [_], _ => rfl), PySem.W.mg_of X G a16,
    PySem.W.mg_none_of X G z_abs,
    PySem.W.mg_none_of X G z_len,
    PySem.W.mg_none_of X G z_max,
    PySem.W.mg_none_of X G z_min,
    PySem.W.mg_none_of X G z_range,
    PySem.W.mg_none_of X G z_sum⟩
theorem all_mk {l : PySem.W.OpenLaw} {w : World} {K : PySem.W.Frag} {h : Heap} {mg : Str → Option Value} {fa : Addr} (X : K.In h) (G : h.Ns mainGlobals mg) (hfa : mg "law" = some (.ref fa))
    {f0 : Addr} {oc0 kV0 dc0 pm0 cd0 ct0 : Value} {od0 an0 : Option Addr} {sl0 : Array (Option Value)} (a0 : PySem.W.nsIn K mainGlobals "_law_draw" = some (some (.ref f0))) (l0 : K.lookup f0 = some ⟨oc0, od0, .func (PySem.W.fnOf "_law_draw" "_law_draw" (defArgs s__law_draw) (defBody s__law_draw) (defScope s__law_draw) .none kV0 dc0 pm0 an0 cd0 ct0), sl0⟩) (c0 : PySem.W.codeIn K cd0 "_law_draw" = true) (k0 : PySem.W.keepIn K (.ref f0) = true)
    {f1 : Addr} {oc1 kV1 dc1 pm1 cd1 ct1 : Value} {od1 an1 : Option Addr} {sl1 : Array (Option Value)} (a1 : PySem.W.nsIn K mainGlobals "_law_common" = some (some (.ref f1))) (l1 : K.lookup f1 = some ⟨oc1, od1, .func (PySem.W.fnOf "_law_common" "_law_common" (defArgs s__law_common) (defBody s__law_common) (defScope s__law_common) .none kV1 dc1 pm1 an1 cd1 ct1), sl1⟩) (c1 : PySem.W.codeIn K cd1 "_law_common" = true) (k1 : PySem.W.keepIn K (.ref f1) = true)
    {f2 : Addr} {oc2 kV2 dc2 pm2 cd2 ct2 : Value} {od2 an2 : Option Addr} {sl2 : Array (Option Value)} (a2 : PySem.W.nsIn K mainGlobals "is_guard" = some (some (.ref f2))) (l2 : K.lookup f2 = some ⟨oc2, od2, .func (PySem.W.fnOf "is_guard" "is_guard" (defArgs s_is_guard) (defBody s_is_guard) (defScope s_is_guard) .none kV2 dc2 pm2 an2 cd2 ct2), sl2⟩) (c2 : PySem.W.codeIn K cd2 "is_guard" = true) (k2 : PySem.W.keepIn K (.ref f2) = true)
    {f3 : Addr} {oc3 kV3 dc3 pm3 cd3 ct3 : Value} {od3 an3 : Option Addr} {sl3 : Array (Option Value)} (a3 : PySem.W.nsIn K mainGlobals "check_guard" = some (some (.ref f3))) (l3 : K.lookup f3 = some ⟨oc3, od3, .func (PySem.W.fnOf "check_guard" "check_guard" (defArgs s_check_guard) (defBody s_check_guard) (defScope s_check_guard) .none kV3 dc3 pm3 an3 cd3 ct3), sl3⟩) (c3 : PySem.W.codeIn K cd3 "check_guard" = true) (k3 : PySem.W.keepIn K (.ref f3) = true)
    {f4 : Addr} {oc4 kV4 dc4 pm4 cd4 ct4 : Value} {od4 an4 : Option Addr} {sl4 : Array (Option Value)} (a4 : PySem.W.nsIn K mainGlobals "first_of" = some (some (.ref f4))) (l4 : K.lookup f4 = some ⟨oc4, od4, .func (PySem.W.fnOf "first_of" "first_of" (defArgs s_first_of) (defBody s_first_of) (defScope s_first_of) .none kV4 dc4 pm4 an4 cd4 ct4), sl4⟩) (c4 : PySem.W.codeIn K cd4 "first_of" = true) (k4 : PySem.W.keepIn K (.ref f4) = true)
    {f5 : Addr} {oc5 kV5 dc5 pm5 cd5 ct5 : Value} {od5 an5 : Option Addr} {sl5 : Array (Option Value)} (a5 : PySem.W.nsIn K mainGlobals "lanes_of" = some (some (.ref f5))) (l5 : K.lookup f5 = some ⟨oc5, od5, .func (PySem.W.fnOf "lanes_of" "lanes_of" (defArgs s_lanes_of) (defBody s_lanes_of) (defScope s_lanes_of) .none kV5 dc5 pm5 an5 cd5 ct5), sl5⟩) (c5 : PySem.W.codeIn K cd5 "lanes_of" = true) (k5 : PySem.W.keepIn K (.ref f5) = true)
    {f6 : Addr} {oc6 kV6 dc6 pm6 cd6 ct6 : Value} {od6 an6 : Option Addr} {sl6 : Array (Option Value)} (a6 : PySem.W.nsIn K mainGlobals "count_lanes" = some (some (.ref f6))) (l6 : K.lookup f6 = some ⟨oc6, od6, .func (PySem.W.fnOf "count_lanes" "count_lanes" (defArgs s_count_lanes) (defBody s_count_lanes) (defScope s_count_lanes) .none kV6 dc6 pm6 an6 cd6 ct6), sl6⟩) (c6 : PySem.W.codeIn K cd6 "count_lanes" = true) (k6 : PySem.W.keepIn K (.ref f6) = true)
    {f7 : Addr} {oc7 kV7 dc7 pm7 cd7 ct7 : Value} {od7 an7 : Option Addr} {sl7 : Array (Option Value)} (a7 : PySem.W.nsIn K mainGlobals "has" = some (some (.ref f7))) (l7 : K.lookup f7 = some ⟨oc7, od7, .func (PySem.W.fnOf "has" "has" (defArgs s_has) (defBody s_has) (defScope s_has) .none kV7 dc7 pm7 an7 cd7 ct7), sl7⟩) (c7 : PySem.W.codeIn K cd7 "has" = true) (k7 : PySem.W.keepIn K (.ref f7) = true)
    {f8 : Addr} {oc8 kV8 dc8 pm8 cd8 ct8 : Value} {od8 an8 : Option Addr} {sl8 : Array (Option Value)} (a8 : PySem.W.nsIn K mainGlobals "has_lane" = some (some (.ref f8))) (l8 : K.lookup f8 = some ⟨oc8, od8, .func (PySem.W.fnOf "has_lane" "has_lane" (defArgs s_has_lane) (defBody s_has_lane) (defScope s_has_lane) .none kV8 dc8 pm8 an8 cd8 ct8), sl8⟩) (c8 : PySem.W.codeIn K cd8 "has_lane" = true) (k8 : PySem.W.keepIn K (.ref f8) = true)
    {f9 : Addr} {oc9 kV9 dc9 pm9 cd9 ct9 : Value} {od9 an9 : Option Addr} {sl9 : Array (Option Value)} (a9 : PySem.W.nsIn K mainGlobals "lane_at" = some (some (.ref f9))) (l9 : K.lookup f9 = some ⟨oc9, od9, .func (PySem.W.fnOf "lane_at" "lane_at" (defArgs s_lane_at) (defBody s_lane_at) (defScope s_lane_at) .none kV9 dc9 pm9 an9 cd9 ct9), sl9⟩) (c9 : PySem.W.codeIn K cd9 "lane_at" = true) (k9 : PySem.W.keepIn K (.ref f9) = true)
    {f10 : Addr} {oc10 kV10 dc10 pm10 cd10 ct10 : Value} {od10 an10 : Option Addr} {sl10 : Array (Option Value)} (a10 : PySem.W.nsIn K mainGlobals "nth_lane" = some (some (.ref f10))) (l10 : K.lookup f10 = some ⟨oc10, od10, .func (PySem.W.fnOf "nth_lane" "nth_lane" (defArgs s_nth_lane) (defBody s_nth_lane) (defScope s_nth_lane) .none kV10 dc10 pm10 an10 cd10 ct10), sl10⟩) (c10 : PySem.W.codeIn K cd10 "nth_lane" = true) (k10 : PySem.W.keepIn K (.ref f10) = true)
    {f11 : Addr} {oc11 kV11 dc11 pm11 cd11 ct11 : Value} {od11 an11 : Option Addr} {sl11 : Array (Option Value)} (a11 : PySem.W.nsIn K mainGlobals "_law_counts_right" = some (some (.ref f11))) (l11 : K.lookup f11 = some ⟨oc11, od11, .func (PySem.W.fnOf "_law_counts_right" "_law_counts_right" (defArgs s__law_counts_right) (defBody s__law_counts_right) (defScope s__law_counts_right) .none kV11 dc11 pm11 an11 cd11 ct11), sl11⟩) (c11 : PySem.W.codeIn K cd11 "_law_counts_right" = true) (k11 : PySem.W.keepIn K (.ref f11) = true)
    {f12 : Addr} {oc12 kV12 dc12 pm12 cd12 ct12 : Value} {od12 an12 : Option Addr} {sl12 : Array (Option Value)} (a12 : PySem.W.nsIn K mainGlobals "_law_source" = some (some (.ref f12))) (l12 : K.lookup f12 = some ⟨oc12, od12, .func (PySem.W.fnOf "_law_source" "_law_source" (defArgs s__law_source) (defBody s__law_source) (defScope s__law_source) .none kV12 dc12 pm12 an12 cd12 ct12), sl12⟩) (c12 : PySem.W.codeIn K cd12 "_law_source" = true) (k12 : PySem.W.keepIn K (.ref f12) = true)
    {f13 : Addr} {oc13 kV13 dc13 pm13 cd13 ct13 : Value} {od13 an13 : Option Addr} {sl13 : Array (Option Value)} (a13 : PySem.W.nsIn K mainGlobals "bezout" = some (some (.ref f13))) (l13 : K.lookup f13 = some ⟨oc13, od13, .func (PySem.W.fnOf "bezout" "bezout" (defArgs s_bezout) (defBody s_bezout) (defScope s_bezout) .none kV13 dc13 pm13 an13 cd13 ct13), sl13⟩) (c13 : PySem.W.codeIn K cd13 "bezout" = true) (k13 : PySem.W.keepIn K (.ref f13) = true)
    {f14 : Addr} {oc14 kV14 dc14 pm14 cd14 ct14 : Value} {od14 an14 : Option Addr} {sl14 : Array (Option Value)} (a14 : PySem.W.nsIn K mainGlobals "meeting" = some (some (.ref f14))) (l14 : K.lookup f14 = some ⟨oc14, od14, .func (PySem.W.fnOf "meeting" "meeting" (defArgs s_meeting) (defBody s_meeting) (defScope s_meeting) .none kV14 dc14 pm14 an14 cd14 ct14), sl14⟩) (c14 : PySem.W.codeIn K cd14 "meeting" = true) (k14 : PySem.W.keepIn K (.ref f14) = true)
    {f15 : Addr} {oc15 kV15 dc15 pm15 cd15 ct15 : Value} {od15 an15 : Option Addr} {sl15 : Array (Option Value)} (a15 : PySem.W.nsIn K mainGlobals "met" = some (some (.ref f15))) (l15 : K.lookup f15 = some ⟨oc15, od15, .func (PySem.W.fnOf "met" "met" (defArgs s_met) (defBody s_met) (defScope s_met) .none kV15 dc15 pm15 an15 cd15 ct15), sl15⟩) (c15 : PySem.W.codeIn K cd15 "met" = true) (k15 : PySem.W.keepIn K (.ref f15) = true)
    {f16 : Addr} {oc16 kV16 dc16 pm16 cd16 ct16 : Value} {od16 an16 : Option Addr} {sl16 : Array (Option Value)} (a16 : PySem.W.nsIn K mainGlobals "law" = some (some (.ref f16))) (l16 : K.lookup f16 = some ⟨oc16, od16, .func (PySem.W.fnOf "law" "law" (defArgs s_law) (defBody s_law) (defScope s_law) .none kV16 dc16 pm16 an16 cd16 ct16), sl16⟩) (c16 : PySem.W.codeIn K cd16 "law" = true) (k16 : PySem.W.keepIn K (.ref f16) = true)
    (z_abs : PySem.W.nsIn K mainGlobals "abs" = some none)
    (z_len : PySem.W.nsIn K mainGlobals "len" = some none)
    (z_max : PySem.W.nsIn K mainGlobals "max" = some none)
    (z_min : PySem.W.nsIn K mainGlobals "min" = some none)
    (z_range : PySem.W.nsIn K mainGlobals "range" = some none)
    (z_sum : PySem.W.nsIn K mainGlobals "sum" = some none) :
    ∃ fd : FuncData, (∀ (s : Shared) (v : Value), BindsTo s fd ⟨[v], []⟩ [("script", v)]) ∧ ∀ base : Heap, K.In base → base.Ns mainGlobals mg → FnP l.prog w K mg base (fun _ => 0) 5 fa fd ["script"] m_law := by
  have e := hfa.symm.trans (PySem.W.mg_of X G a16)
  cases e
  exact ⟨_, fun s v => .of_eq rfl, fun base _ _ => ok_law (txt_of X G a0 l0 c0 k0 a1 l1 c1 k1 a2 l2 c2 k2 a3 l3 c3 k3 a4 l4 c4 k4 a5 l5 c5 k5 a6 l6 c6 k6 a7 l7 c7 k7 a8 l8 c8 k8 a9 l9 c9 k9 a10 l10 c10 k10 a11 l11 c11 k11 a12 l12 c12 k12 a13 l13 c13 k13 a14 l14 c14 k14 a15 l15 c15 k15 a16 l16 c16 k16 z_abs z_len z_max z_min z_range z_sum)⟩
end K03

/-! K03_L: the plain law of k03. -/
namespace K03
open PySem PySem.Spec PyProof.Rows L2 PL PN PM
local macro_rules | `(tactic| walk_at "ev") => `(tactic| try simp only [mOf, endF, start0, gSeq, gNop, gAsg, gRet, gRetO, gAsgO, gDrop, gIf, gOpt, gPar, gPar3, gAug, aName, asNil, asCons, aTup, aLst, setV, setO, eVar, eC, eBin, eUn, eTup, aNil, aCons, oLst, frz, eCall, oCall, avN, avK, permL, lNil, lPv, lSl, tOf, tTru, tNt, tAn, tOrr, eIf, eAn, eOr, eNt, eChain, eCallB, eIxM, gSetIx, getM, pTru, pAdd, pSub, pMul, pFdiv, pMod, pPow, pNeg, pLt, pLe, pGt, pGe, pIs, pIsNot, pAddI, pIx, pLen, pAbs, pMax2, pMin2, Res.bind_ok, Res.bind_ex, Res.bind_stuck, Res.fl_ok, Res.fl_ex, Res.fl_stuck, Res.opt_some, Res.opt_none, lowerA, keyOf, getK, getAll, setAll, setK, distinct, List.map_cons, List.map_nil, List.length_cons, List.length_nil, List.replicate, List.cons_append, List.nil_append, List.append_nil, List.getElem?_cons_zero, List.getElem?_cons_succ, List.getElem?_nil, List.set_cons_zero, List.set_cons_succ, List.filterMap_cons, List.filterMap_nil, Option.bind_some, Option.map_some, Option.elim_some, if_true, if_false, Nat.reduceAdd, Nat.reduceSub, Nat.reduceEqDiff, Nat.reduceLeDiff, ↓reduceIte, Bool.false_eq_true, at0, at1, at2, at3, pEq, pNe, eqB_int, Option.some.injEq, decide_true, decide_false, not_true_eq_false, not_false_eq_true, Bool.and_true, ne_eq, reduceCtorEq, Bool.true_eq_false, Bool.not_true, Bool.not_false, frz, noEx, wipeS, wipeR, backS, backR, keepV, oComp, gFor, iAny, iRange1, iRange2, iRange3, oRg2, oRg1, oRg, tYesD, pIn, pNotIn, eSl, pNo, pSo, forL_nil, gApp, gParO, List.not_mem_nil, List.not_mem_nil])
local macro_rules | `(tactic| walk_at "evs") => `(tactic| simp only [*, mOf, endF, start0, gSeq, gNop, gAsg, gRet, gRetO, gAsgO, gDrop, gIf, gOpt, gPar, gPar3, gAug, aName, asNil, asCons, aTup, aLst, setV, setO, eVar, eC, eBin, eUn, eTup, aNil, aCons, oLst, frz, eCall, oCall, avN, avK, permL, lNil, lPv, lSl, tOf, tTru, tNt, tAn, tOrr, eIf, eAn, eOr, eNt, eChain, eCallB, eIxM, gSetIx, getM, pTru, pAdd, pSub, pMul, pFdiv, pMod, pPow, pNeg, pLt, pLe, pGt, pGe, pIs, pIsNot, pAddI, pIx, pLen, pAbs, pMax2, pMin2, Res.bind_ok, Res.bind_ex, Res.bind_stuck, Res.fl_ok, Res.fl_ex, Res.fl_stuck, Res.opt_some, Res.opt_none, lowerA, keyOf, getK, getAll, setAll, setK, distinct, List.map_cons, List.map_nil, List.length_cons, List.length_nil, List.replicate, List.cons_append, List.nil_append, List.append_nil, List.getElem?_cons_zero, List.getElem?_cons_succ, List.getElem?_nil, List.set_cons_zero, List.set_cons_succ, List.filterMap_cons, List.filterMap_nil, Option.bind_some, Option.map_some, Option.elim_some, if_true, if_false, Nat.reduceAdd, Nat.reduceSub, Nat.reduceEqDiff, Nat.reduceLeDiff, ↓reduceIte, Bool.false_eq_true, at0, at1, at2, at3, pEq, pNe, eqB_int, Option.some.injEq, decide_true, decide_false, not_true_eq_false, not_false_eq_true, Bool.and_true, ne_eq, reduceCtorEq, Bool.true_eq_false, Bool.not_true, Bool.not_false, frz, noEx, wipeS, wipeR, backS, backR, keepV, oComp, gFor, iAny, iRange1, iRange2, iRange3, oRg2, oRg1, oRg, tYesD, pIn, pNotIn, eSl, pNo, pSo, forL_nil, gApp, gParO, List.not_mem_nil, List.not_mem_nil, eq_self, not_true_eq_false, not_false_eq_true, ix30, ix31, ix32, Bool.and_self, and_self, and_true, true_and])
noncomputable def l__law_common_1b : PV → Stt → Option Stt := (aName 5)
noncomputable def l__law_common_1c_s1 : Stt → Fl := (gAsg (eBin pSub (eVar 3) (eBin pFdiv (eCall PM.m__law_draw (avN 2 (lSl 0 (lPv (eBin pAdd (eVar 3) (eC (.int 1))) lNil)))) (eBin pIx (frz (oLst (aCons (eC (.int 1)) (aCons (eBin pPow (eC (.int 10)) (eC (.int 9))) (aCons (eBin pPow (eC (.int 10)) (eC (.int 20))) aNil))))) (eCall PM.m__law_draw (avN 2 (lSl 0 (lPv (eC (.int 3)) lNil))))))) (aName 6))
noncomputable def l__law_common_1c_s2 : Stt → Fl := (gApp 4 (eTup (aCons (eCallB pMax2 (aCons (eC (.int 0)) (aCons (eVar 6) aNil))) (aCons (eBin pAdd (eBin pAdd (eVar 3) (eC (.int 1))) (eCall PM.m__law_draw (avN 2 (lSl 0 (lPv (eBin pSub (eBin pPow (eC (.int 10)) (eC (.int 30))) (eVar 3)) lNil))))) (aCons (eVar 5) (aCons (eBin pMod (eVar 3) (eVar 5)) aNil))))))
noncomputable def l__law_common_1c : Stt → Fl := (gSeq l__law_common_1c_s1 (gSeq l__law_common_1c_s2 gNop))
noncomputable def q__law_common_1 : Stt → Fl := (gPar 1 2 (aCons (eBin pAdd (eC (.int 1)) (eCall PM.m__law_draw (avN 2 (lSl 0 (lPv (eBin pIx (frz (oLst (aCons (eC (.int 9)) (aCons (eBin pPow (eC (.int 10)) (eC (.int 9))) (aCons (eBin pPow (eC (.int 10)) (eC (.int 14))) aNil))))) (eCall PM.m__law_draw (avN 2 (lSl 0 (lPv (eC (.int 3)) lNil))))) lNil))))) (aCons (eBin pAdd (eC (.int 1)) (eCall PM.m__law_draw (avN 2 (lSl 0 (lPv (eBin pPow (eC (.int 10)) (eC (.int 7))) lNil))))) aNil)))
noncomputable def q__law_common_2 : Stt → Fl := (gParO 3 4 (eCall PM.m__law_draw (avN 2 (lSl 0 (lPv (eBin pPow (eC (.int 10)) (eC (.int 30))) lNil)))) (oLst aNil))
noncomputable def q__law_common_3 : Stt → Fl := (gFor (iAny (frz (oLst (aCons (eBin pMul (eVar 1) (eVar 2)) (aCons (eBin pMul (eVar 1) (eBin pAdd (eVar 2) (eC (.int 1)))) aNil))))) l__law_common_1b l__law_common_1c)
noncomputable def q__law_common_4 : Stt → Fl := (gAsg (eBin pMul (eBin pMul (eVar 1) (eVar 2)) (eBin pAdd (eVar 2) (eC (.int 1)))) (aName 7))
noncomputable def q__law_common_5 : Stt → Fl := (gPar 6 8 (aCons (eCallB pMax2 (aCons (eBin pIx (eIxM 4 (eC (.int 0))) (eC (.int 0))) (aCons (eBin pIx (eIxM 4 (eC (.int 1))) (eC (.int 0))) aNil))) (aCons (eCallB pMin2 (aCons (eBin pIx (eIxM 4 (eC (.int 0))) (eC (.int 1))) (aCons (eBin pIx (eIxM 4 (eC (.int 1))) (eC (.int 1))) aNil))) aNil)))
noncomputable def q__law_common_6 : Stt → Fl := (gRet (frz (oLst (aCons (eIxM 4 (eC (.int 0))) (aCons (eIxM 4 (eC (.int 1))) (aCons (eTup (aCons (eVar 6) (aCons (eVar 8) (aCons (eVar 7) (aCons (eBin pMod (eVar 3) (eVar 7)) aNil))))) (aCons (eVar 3) (aCons (eVar 1) aNil))))))))
theorem g__law_common_eq : g__law_common = (gSeq q__law_common_1 (gSeq q__law_common_2 (gSeq q__law_common_3 (gSeq q__law_common_4 (gSeq q__law_common_5 (gSeq q__law_common_6 gNop)))))) := rfl
noncomputable def l__law_counts_right_1c : PV → Stt → Option Stt := (aName 8)
noncomputable def l__law_counts_right_1d : Stt → Res Bool := tYesD
noncomputable def l__law_counts_right_1e : Stt → Res PV := (eCall PM.m_count_lanes (avN 1 (lPv (eVar 8) lNil)))
noncomputable def q__law_counts_right_1 : Stt → Fl := (gAsg (eCall PM.m_count_lanes (avN 1 (lPv (eVar 1) lNil))) (aName 2))
noncomputable def q__law_counts_right_2 : Stt → Fl := (gPar 3 4 (aCons (eCall PM.m_nth_lane (avN 2 (lPv (eVar 1) (lPv (eC (.int 0)) lNil)))) (aCons (eCall PM.m_nth_lane (avN 2 (lPv (eVar 1) (lPv (eBin pSub (eVar 2) (eC (.int 1))) lNil)))) aNil)))
noncomputable def q__law_counts_right_3 : Stt → Fl := (gIf (tOrr (tOf (eBin pGe (eBin pSub (eVar 3) (eBin pIx (eVar 1) (eC (.int 2)))) (eBin pIx (eVar 1) (eC (.int 0))))) (tOrr (tOf (eBin pLt (eBin pAdd (eVar 4) (eBin pIx (eVar 1) (eC (.int 2)))) (eBin pIx (eVar 1) (eC (.int 1))))) (tOf (eBin pNe (eBin pSub (eVar 4) (eVar 3)) (eBin pMul (eBin pIx (eVar 1) (eC (.int 2))) (eBin pSub (eVar 2) (eC (.int 1)))))))) (gSeq (gRet (eC (.bl false))) gNop) gNop)
noncomputable def q__law_counts_right_4 : Stt → Fl := (gAsg (eCall PM.m__law_draw (avN 2 (lSl 0 (lPv (eVar 2) lNil)))) (aName 5))
noncomputable def q__law_counts_right_5 : Stt → Fl := (gIf (tOrr (tOf (eBin pNe (eCall PM.m_nth_lane (avN 2 (lPv (eVar 1) (lPv (eVar 5) lNil)))) (eBin pAdd (eVar 3) (eBin pMul (eBin pIx (eVar 1) (eC (.int 2))) (eVar 5))))) (tNt (tTru (eCall PM.m_has_lane (avN 2 (lPv (eVar 1) (lPv (eCall PM.m_nth_lane (avN 2 (lPv (eVar 1) (lPv (eVar 5) lNil)))) lNil))))))) (gSeq (gRet (eC (.bl false))) gNop) gNop)
noncomputable def q__law_counts_right_6 : Stt → Fl := (gAsg (eBin pAdd (eBin pIx (eVar 1) (eC (.int 0))) (eCall PM.m__law_draw (avN 2 (lSl 0 (lPv (eBin pAdd (eBin pSub (eBin pIx (eVar 1) (eC (.int 1))) (eBin pIx (eVar 1) (eC (.int 0)))) (eC (.int 1))) lNil))))) (aName 6))
noncomputable def q__law_counts_right_7 : Stt → Fl := (gAsg (frz (oLst (aCons (eTup (aCons (eBin pIx (eVar 1) (eC (.int 0))) (aCons (eVar 6) (aCons (eBin pIx (eVar 1) (eC (.int 2))) (aCons (eBin pIx (eVar 1) (eC (.int 3))) aNil))))) (aCons (eTup (aCons (eVar 6) (aCons (eBin pIx (eVar 1) (eC (.int 1))) (aCons (eBin pIx (eVar 1) (eC (.int 2))) (aCons (eBin pIx (eVar 1) (eC (.int 3))) aNil))))) aNil)))) (aName 7))
noncomputable def q__law_counts_right_8 : Stt → Fl := (gIf (tOf (eBin pNe (eCallB pSum (aCons (frz (oComp [8] (iAny (eVar 7)) l__law_counts_right_1c l__law_counts_right_1d l__law_counts_right_1e)) aNil)) (eVar 2))) (gSeq (gRet (eC (.bl false))) gNop) gNop)
noncomputable def q__law_counts_right_9 : Stt → Fl := (gRet (eBin pEq (eCall PM.m_has_lane (avN 2 (lPv (eVar 1) (lPv (eVar 6) lNil)))) (eAn (eChain pLe pLt (eBin pIx (eVar 1) (eC (.int 0))) (eVar 6) (eBin pIx (eVar 1) (eC (.int 1)))) (eBin pEq (eBin pMod (eVar 6) (eBin pIx (eVar 1) (eC (.int 2)))) (eBin pIx (eVar 1) (eC (.int 3)))))))
theorem g__law_counts_right_eq : g__law_counts_right = (gSeq q__law_counts_right_1 (gSeq q__law_counts_right_2 (gSeq q__law_counts_right_3 (gSeq q__law_counts_right_4 (gSeq q__law_counts_right_5 (gSeq q__law_counts_right_6 (gSeq q__law_counts_right_7 (gSeq q__law_counts_right_8 (gSeq q__law_counts_right_9 gNop))))))))) := rfl
noncomputable def l_law_1b : PV → Stt → Option Stt := (aName 2)
noncomputable def l_law_1c_s1 : Stt → Fl := (gAsg (eCall m__law_common (avN 1 (lSl 1 lNil))) (aLst 5 (asCons (aName 3) (asCons (aName 4) (asCons (aName 5) (asCons (aName 6) (asCons (aName 7) asNil)))))))
noncomputable def l_law_1c_s2 : Stt → Fl := (gIf (tOrr (tOf (eBin pNe (eCall PM.m_met (avN 2 (lPv (eVar 3) (lPv (eVar 4) lNil)))) (eVar 5))) (tOrr (tOf (eBin pNe (eCall PM.m_met (avN 2 (lPv (eVar 4) (lPv (eVar 3) lNil)))) (eVar 5))) (tNt (tTru (eCall PM.m_has_lane (avN 2 (lPv (eVar 5) (lPv (eVar 6) lNil)))))))) (gSeq (gRet (eC (.bl false))) gNop) gNop)
noncomputable def l_law_1c_s3 : Stt → Fl := (gIf (tOrr (tNt (tTru (eCall m__law_counts_right (avN 2 (lSl 1 (lPv (eVar 3) lNil)))))) (tNt (tTru (eCall m__law_counts_right (avN 2 (lSl 1 (lPv (eVar 5) lNil))))))) (gSeq (gRet (eC (.bl false))) gNop) gNop)
noncomputable def l_law_1c_s4 : Stt → Fl := (gIf (tOf (eBin pGt (eVar 7) (eC (.int 1)))) (gSeq (gAsg (eTup (aCons (eBin pIx (eVar 4) (eC (.int 0))) (aCons (eBin pIx (eVar 4) (eC (.int 1))) (aCons (eBin pIx (eVar 4) (eC (.int 2))) (aCons (eBin pMod (eBin pAdd (eBin pAdd (eBin pIx (eVar 4) (eC (.int 3))) (eC (.int 1))) (eCall PM.m__law_draw (avN 2 (lSl 1 (lPv (eBin pSub (eVar 7) (eC (.int 1))) lNil))))) (eBin pIx (eVar 4) (eC (.int 2)))) aNil))))) (aName 8)) (gSeq (gIf (tAn (tOf (eBin pNe (eBin pMod (eBin pIx (eVar 8) (eC (.int 3))) (eVar 7)) (eBin pMod (eBin pIx (eVar 3) (eC (.int 3))) (eVar 7)))) (tOf (eBin pIsNot (eCall PM.m_met (avN 2 (lPv (eVar 3) (lPv (eVar 8) lNil)))) (eC .non)))) (gSeq (gRet (eC (.bl false))) gNop) gNop) gNop)) gNop)
noncomputable def l_law_1c : Stt → Fl := (gSeq l_law_1c_s1 (gSeq l_law_1c_s2 (gSeq l_law_1c_s3 (gSeq l_law_1c_s4 gNop))))
noncomputable def q_law_1 : Stt → Fl := (gAsgO 1 (oCall PM.m__law_source (avN 1 (lPv (eVar 0) lNil))))
noncomputable def q_law_2 : Stt → Fl := (gFor (iRange1 (aCons (eBin pAdd (eC (.int 2)) (eCallB pMin2 (aCons (eC (.int 6)) (aCons (eCallB pLen (aCons (eVar 0) aNil)) aNil)))) aNil)) l_law_1b l_law_1c)
noncomputable def q_law_3 : Stt → Fl := (gRet (eBin pEq (eCall PM.m_count_lanes (avN 1 (lPv (eTup (aCons (eC (.int 3)) (aCons (eBin pPow (eC (.int 10)) (eC (.int 30))) (aCons (eC (.int 7)) (aCons (eC (.int 3)) aNil))))) lNil))) (eBin pFdiv (eBin pSub (eBin pPow (eC (.int 10)) (eC (.int 30))) (eC (.int 1))) (eC (.int 7)))))
theorem g_law_eq : g_law = (gSeq q_law_1 (gSeq q_law_2 (gSeq q_law_3 gNop))) := rfl
theorem seq_nx {f g : Stt → Fl} {s s1 : Stt} (h : f s = .nx s1) : gSeq f g s = g s1 := by simp only [gSeq, h]
theorem seq_rt {f g : Stt → Fl} {s s1 : Stt} {v : PV} (h : f s = .rt v s1) : gSeq f g s = .rt v s1 := by simp only [gSeq, h]
/-! ### plain -/
theorem lcm2 {o b t : Int} (ho : 0 < o) (hb : 0 < b) (t0 : 0 < t) (d1 : o * b ∣ t) (d2 : o * (b + 1) ∣ t) (dm : ∀ d, o * b ∣ d → o * (b + 1) ∣ d → t ∣ d) : t = o * b * (b + 1) := by
  have w0 : 0 < o * b * (b + 1) := Int.mul_pos (Int.mul_pos ho hb) (by omega)
  have k1 : t ∣ o * b * (b + 1) := dm _ ⟨b + 1, rfl⟩ ⟨b, by grind⟩
  obtain ⟨u, hu⟩ := d1
  obtain ⟨v, hv⟩ := d2
  have e1 : o * (b * u) = o * ((b + 1) * v) := by rw [← Int.mul_assoc, ← Int.mul_assoc, ← hu, ← hv]
  have e2 := Int.eq_of_mul_eq_mul_left (by omega) e1
  have e3 : v = b * (u - v) := by rw [Int.mul_sub]; rw [Int.add_mul] at e2; omega
  have k2 : o * b * (b + 1) ∣ t := ⟨u - v, by rw [hv, e3]; grind⟩
  have l1 := Int.le_of_dvd w0 k1
  have l2 := Int.le_of_dvd t0 k2
  omega
theorem lanes_split {l m h s r : Int} (hs : 0 < s) (h0 : 0 ≤ r) (h1 : r < s) (a : l ≤ m) (b : m ≤ h) : lanesOf l m s r + lanesOf m h s r = lanesOf l h s r := by
  rw [← listed_len hs h0 h1, ← listed_len hs h0 h1, ← listed_len hs h0 h1]
  have e : listed l h s r = listed l m s r ++ listed m h s r := by
    refine asc_ext (listed_asc _ _ _ _) ?_ fun x => ?_
    · rw [List.pairwise_append]
      refine ⟨listed_asc _ _ _ _, listed_asc _ _ _ _, fun x hx y hy => ?_⟩
      have := mem_listed.mp hx
      have := mem_listed.mp hy
      omega
    · rw [List.mem_append, mem_listed, mem_listed, mem_listed]
      omega
  rw [e, List.length_append]
  omega
/-- a guard with the lane z -/
structure Gz (l h s r z : Int) : Prop where
  l0 : 0 ≤ l
  lz : l ≤ z
  zh : z < h
  h1 : h ≤ 10 ^ 30
  s0 : 0 < s
  s1 : s < 2 ^ 200
  re : r = z % s
theorem Gz.r0 {l h s r z : Int} (g : Gz l h s r z) : 0 ≤ r := by rw [g.re]; exact Int.emod_nonneg _ (by have := g.s0; omega)
theorem Gz.r1 {l h s r z : Int} (g : Gz l h s r z) : r < s := by rw [g.re]; exact Int.emod_lt_of_pos _ g.s0
theorem Gz.guard {l h s r z : Int} (g : Gz l h s r z) : isGuard l h s r = true := guard_iff.mpr ⟨g.l0, by have := g.lz; have := g.zh; omega, g.r0, g.r1⟩
theorem Gz.sb {l h s r z : Int} (g : Gz l h s r z) : s.natAbs < 2 ^ 200 := by have := g.s0; have := g.s1; omega
theorem Gz.many {l h s r z : Int} (g : Gz l h s r z) : 0 < lanesOf l h s r := by
  obtain ⟨k, a, b, _⟩ := (lane_iff (l := l) (h := h) (x := z) g.s0 g.r0 g.r1).mp ⟨g.lz, g.zh, g.re.symm⟩
  omega
theorem lanes_le {l h s r : Int} (hs : 0 < s) (h0 : 0 ≤ r) (h1 : r < s) (a : l ≤ h) : lanesOf l h s r ≤ h - l := by
  rw [← listed_len hs h0 h1]
  have h2 : (listed l h s r).length ≤ (seqI l h).length := List.length_filter_le _ _
  have h3 : (seqI l h).length = (h - l).toNat := by simp [seqI]
  omega
theorem pick3 (a b c d : Int) (h0 : 0 ≤ d) (h1 : d < 3) : ∃ w, atI [PV.int a, PV.int b, PV.int c] d = some (PV.int w) ∧ (w = a ∨ w = b ∨ w = c) := by
  have : d = 0 ∨ d = 1 ∨ d = 2 := by omega
  rcases this with rfl | rfl | rfl
  · exact ⟨a, at0 _ _, .inl rfl⟩
  · exact ⟨b, at1 _ _ _, .inr (.inl rfl)⟩
  · exact ⟨c, at2 _ _ _ _, .inr (.inr rfl)⟩
/-! ### the counts -/
theorem e_counts {n : Nat} {m : MO} (h : Src n m) (hn : n < 2 ^ 50) {lo hi s r z : Int} (g : Gz lo hi s r z) : ∃ m', m__law_counts_right [.bor 0, .val (gt lo hi s r)] [m] = .ok (.bl true) [m'] ∧ Src (n + 2) m' := by
  have k1 := g.l0; have k2 := g.lz; have k3 := g.zh; have k4 := g.h1; have k5 := g.s0; have k6 := g.s1; have k7 := g.r0; have k8 := g.r1; have k9 := g.many
  have gg := g.guard
  have od : okDiv s = true := okDiv_of (by omega) g.sb (by decide) (by decide)
  have lb := lanes_le (l := lo) (h := hi) k5 k7 k8 (by omega)
  have ec := e_count lo hi s r gg od
  generalize hN : lanesOf lo hi s r = N at *
  have nth : ∀ k, 0 ≤ k → k < N → okMul s k = true ∧ m_nth_lane [.val (gt lo hi s r), .val (.int k)] [] = .ok (.int (firstOf lo s r + s * k)) [] := fun k a b => by
    have om : okMul s k = true := okMul_of (b := 101) g.sb (by omega) (by decide) (by decide) (by decide)
    exact ⟨om, e_nth lo hi s r k gg od a (by omega) om⟩
  obtain ⟨om0, en0⟩ := nth 0 (by omega) (by omega)
  obtain ⟨oml, enl⟩ := nth (N - 1) (by omega) (by omega)
  obtain ⟨d1, m1, e1, a1, b1, c1⟩ := e_draw h (by omega) N (by omega) (by omega)
  obtain ⟨omd, end1⟩ := nth d1 a1 b1
  obtain ⟨d2, m2, e2, a2, b2, c2⟩ := e_draw c1 (by omega) (hi - lo + 1) (by omega) (by omega)
  have ff : firstOf lo s r < lo + s := first_lt k5
  have fl : ¬ firstOf lo s r + s * N < hi := by
    intro q
    have := (lanes_lt (l := lo) (h := hi) (r := r) (k := N) k5 (by omega)).mpr q
    omega
  have c31 : decide (firstOf lo s r + s * 0 - s ≥ lo) = false := decide_eq_false (by omega)
  have c32 : decide (firstOf lo s r + s * (N - 1) + s < hi) = false := decide_eq_false (by rw [Int.mul_sub]; omega)
  have c33 : (firstOf lo s r + s * (N - 1) - (firstOf lo s r + s * 0) == s * (N - 1)) = true := by rw [beq_iff_eq]; omega
  have c51 : (firstOf lo s r + s * d1 == firstOf lo s r + s * 0 + s * d1) = true := by rw [beq_iff_eq]; omega
  have hl := e_has_lane lo hi s r (firstOf lo s r + s * d1) gg
  have hl1 : isLane lo hi s r (firstOf lo s r + s * d1) = true := by
    unfold isLane
    exact decide_eq_true ((lane_iff k5 k7 k8).mpr ⟨d1, a1, by omega, rfl⟩)
  have cs := lanes_split (l := lo) (m := lo + d2) (h := hi) k5 k7 k8 (by omega) (by omega)
  have ep1 := e_count lo (lo + d2) s r (guard_iff.mpr ⟨by omega, by omega, k7, k8⟩) od
  have ep2 := e_count (lo + d2) hi s r (guard_iff.mpr ⟨by omega, by omega, k7, k8⟩) od
  have hm := e_has_lane lo hi s r (lo + d2) gg
  refine ⟨m2, ?_, c2⟩
  have q1 : q__law_counts_right_1 ⟨[some (.bor 0), some (.val (gt lo hi s r)), none, none, none, none, none, none, none], [m]⟩ = .nx ⟨[some (.bor 0), some (.val (gt lo hi s r)), some (.val (.int N)), none, none, none, none, none, none], [m]⟩ := by
    unfold q__law_counts_right_1
    iterate 4 (walk_at "ev"; try walk_at "evs")
  have q2 : q__law_counts_right_2 ⟨[some (.bor 0), some (.val (gt lo hi s r)), some (.val (.int N)), none, none, none, none, none, none], [m]⟩ = .nx ⟨[some (.bor 0), some (.val (gt lo hi s r)), some (.val (.int N)), some (.val (.int (firstOf lo s r + s * 0))), some (.val (.int (firstOf lo s r + s * (N - 1)))), none, none, none, none], [m]⟩ := by
    unfold q__law_counts_right_2
    iterate 4 (walk_at "ev"; try walk_at "evs")
  have q3 : q__law_counts_right_3 ⟨[some (.bor 0), some (.val (gt lo hi s r)), some (.val (.int N)), some (.val (.int (firstOf lo s r + s * 0))), some (.val (.int (firstOf lo s r + s * (N - 1)))), none, none, none, none], [m]⟩ = .nx ⟨[some (.bor 0), some (.val (gt lo hi s r)), some (.val (.int N)), some (.val (.int (firstOf lo s r + s * 0))), some (.val (.int (firstOf lo s r + s * (N - 1)))), none, none, none, none], [m]⟩ := by
    unfold q__law_counts_right_3
    iterate 4 (walk_at "ev"; try walk_at "evs")
  have q4 : q__law_counts_right_4 ⟨[some (.bor 0), some (.val (gt lo hi s r)), some (.val (.int N)), some (.val (.int (firstOf lo s r + s * 0))), some (.val (.int (firstOf lo s r + s * (N - 1)))), none, none, none, none], [m]⟩ = .nx ⟨[some (.bor 0), some (.val (gt lo hi s r)), some (.val (.int N)), some (.val (.int (firstOf lo s r + s * 0))), some (.val (.int (firstOf lo s r + s * (N - 1)))), some (.val (.int d1)), none, none, none], [m1]⟩ := by
    unfold q__law_counts_right_4
    iterate 4 (walk_at "ev"; try walk_at "evs")
  have q5 : q__law_counts_right_5 ⟨[some (.bor 0), some (.val (gt lo hi s r)), some (.val (.int N)), some (.val (.int (firstOf lo s r + s * 0))), some (.val (.int (firstOf lo s r + s * (N - 1)))), some (.val (.int d1)), none, none, none], [m1]⟩ = .nx ⟨[some (.bor 0), some (.val (gt lo hi s r)), some (.val (.int N)), some (.val (.int (firstOf lo s r + s * 0))), some (.val (.int (firstOf lo s r + s * (N - 1)))), some (.val (.int d1)), none, none, none], [m1]⟩ := by
    unfold q__law_counts_right_5
    iterate 4 (walk_at "ev"; try walk_at "evs")
  have q6 : q__law_counts_right_6 ⟨[some (.bor 0), some (.val (gt lo hi s r)), some (.val (.int N)), some (.val (.int (firstOf lo s r + s * 0))), some (.val (.int (firstOf lo s r + s * (N - 1)))), some (.val (.int d1)), none, none, none], [m1]⟩ = .nx ⟨[some (.bor 0), some (.val (gt lo hi s r)), some (.val (.int N)), some (.val (.int (firstOf lo s r + s * 0))), some (.val (.int (firstOf lo s r + s * (N - 1)))), some (.val (.int d1)), some (.val (.int (lo + d2))), none, none], [m2]⟩ := by
    unfold q__law_counts_right_6
    iterate 4 (walk_at "ev"; try walk_at "evs")
  have q7 : q__law_counts_right_7 ⟨[some (.bor 0), some (.val (gt lo hi s r)), some (.val (.int N)), some (.val (.int (firstOf lo s r + s * 0))), some (.val (.int (firstOf lo s r + s * (N - 1)))), some (.val (.int d1)), some (.val (.int (lo + d2))), none, none], [m2]⟩ = .nx ⟨[some (.bor 0), some (.val (gt lo hi s r)), some (.val (.int N)), some (.val (.int (firstOf lo s r + s * 0))), some (.val (.int (firstOf lo s r + s * (N - 1)))), some (.val (.int d1)), some (.val (.int (lo + d2))), some (.val (.lst [gt lo (lo + d2) s r, gt (lo + d2) hi s r])), none], [m2]⟩ := by
    unfold q__law_counts_right_7
    iterate 4 (walk_at "ev"; try walk_at "evs")
  have cc : compL [8] l__law_counts_right_1c l__law_counts_right_1d l__law_counts_right_1e [gt lo (lo + d2) s r, gt (lo + d2) hi s r] [] ⟨[some (.bor 0), some (.val (gt lo hi s r)), some (.val (.int N)), some (.val (.int (firstOf lo s r + s * 0))), some (.val (.int (firstOf lo s r + s * (N - 1)))), some (.val (.int d1)), some (.val (.int (lo + d2))), some (.val (.lst [gt lo (lo + d2) s r, gt (lo + d2) hi s r])), none], [m2]⟩ = .ok [.int (lanesOf lo (lo + d2) s r), .int (lanesOf (lo + d2) hi s r)] ⟨[some (.bor 0), some (.val (gt lo hi s r)), some (.val (.int N)), some (.val (.int (firstOf lo s r + s * 0))), some (.val (.int (firstOf lo s r + s * (N - 1)))), some (.val (.int d1)), some (.val (.int (lo + d2))), some (.val (.lst [gt lo (lo + d2) s r, gt (lo + d2) hi s r])), none], [m2]⟩ := by
    rw [compL_map (fun p => match p with | .tup [.int a, .int b, .int c, .int d] => some (.int (lanesOf a b c d)) | _ => none) _ _ (by simp) ?_]
    · rfl
    · intro p hp
      simp only [List.mem_cons, List.not_mem_nil, or_false] at hp
      rcases hp with rfl | rfl
      · refine ⟨_, rfl, .inl ⟨_, .int (lanesOf lo (lo + d2) s r), ⟨[some (.bor 0), some (.val (gt lo hi s r)), some (.val (.int N)), some (.val (.int (firstOf lo s r + s * 0))), some (.val (.int (firstOf lo s r + s * (N - 1)))), some (.val (.int d1)), some (.val (.int (lo + d2))), some (.val (.lst [gt lo (lo + d2) s r, gt (lo + d2) hi s r])), some (.val (gt lo (lo + d2) s r))], [m2]⟩, rfl, ?_, rfl, rfl⟩⟩
        unfold l__law_counts_right_1e
        iterate 3 (walk_at "ev"; try walk_at "evs")
      · refine ⟨_, rfl, .inl ⟨_, .int (lanesOf (lo + d2) hi s r), ⟨[some (.bor 0), some (.val (gt lo hi s r)), some (.val (.int N)), some (.val (.int (firstOf lo s r + s * 0))), some (.val (.int (firstOf lo s r + s * (N - 1)))), some (.val (.int d1)), some (.val (.int (lo + d2))), some (.val (.lst [gt lo (lo + d2) s r, gt (lo + d2) hi s r])), some (.val (gt (lo + d2) hi s r))], [m2]⟩, rfl, ?_, rfl, rfl⟩⟩
        unfold l__law_counts_right_1e
        iterate 3 (walk_at "ev"; try walk_at "evs")
  have sm : pSum [.lst [.int (lanesOf lo (lo + d2) s r), .int (lanesOf (lo + d2) hi s r)]] = some (.int N) := by
    rw [← hN, ← cs]
    simp [pSum, allInt]
  have en : (N == N) = true := beq_self_eq_true N
  have q8 : q__law_counts_right_8 ⟨[some (.bor 0), some (.val (gt lo hi s r)), some (.val (.int N)), some (.val (.int (firstOf lo s r + s * 0))), some (.val (.int (firstOf lo s r + s * (N - 1)))), some (.val (.int d1)), some (.val (.int (lo + d2))), some (.val (.lst [gt lo (lo + d2) s r, gt (lo + d2) hi s r])), none], [m2]⟩ = .nx ⟨[some (.bor 0), some (.val (gt lo hi s r)), some (.val (.int N)), some (.val (.int (firstOf lo s r + s * 0))), some (.val (.int (firstOf lo s r + s * (N - 1)))), some (.val (.int d1)), some (.val (.int (lo + d2))), some (.val (.lst [gt lo (lo + d2) s r, gt (lo + d2) hi s r])), none], [m2]⟩ := by
    unfold q__law_counts_right_8
    iterate 4 (walk_at "ev"; try walk_at "evs")
  have q9 : q__law_counts_right_9 ⟨[some (.bor 0), some (.val (gt lo hi s r)), some (.val (.int N)), some (.val (.int (firstOf lo s r + s * 0))), some (.val (.int (firstOf lo s r + s * (N - 1)))), some (.val (.int d1)), some (.val (.int (lo + d2))), some (.val (.lst [gt lo (lo + d2) s r, gt (lo + d2) hi s r])), none], [m2]⟩ = .rt (.bl true) ⟨[some (.bor 0), some (.val (gt lo hi s r)), some (.val (.int N)), some (.val (.int (firstOf lo s r + s * 0))), some (.val (.int (firstOf lo s r + s * (N - 1)))), some (.val (.int d1)), some (.val (.int (lo + d2))), some (.val (.lst [gt lo (lo + d2) s r, gt (lo + d2) hi s r])), none], [m2]⟩ := by
    have ebl := (Rk.bl (isLane lo hi s r (lo + d2))).eq_self (by omega)
    have g1 : decide (lo ≤ lo + d2) = true := decide_eq_true (by omega)
    have fm : (lo + d2).fmod s = (lo + d2) % s := Int.fmod_eq_emod_of_nonneg _ (by omega)
    have zs : (s = 0) = False := by simp; omega
    by_cases h2 : lo + d2 < hi
    · have g2 : decide (lo + d2 < hi) = true := decide_eq_true h2
      have g3 : isLane lo hi s r (lo + d2) = ((lo + d2) % s == r) := by
        unfold isLane
        by_cases h3 : (lo + d2) % s = r
        · rw [decide_eq_true ⟨by omega, h2, h3⟩]; simp [h3]
        · rw [decide_eq_false (fun z => h3 z.2.2)]; simp [h3]
      rw [g3] at ebl hm
      clear h2
      unfold q__law_counts_right_9
      iterate 4 (walk_at "ev"; try walk_at "evs")
    · have g2 : decide (lo + d2 < hi) = false := decide_eq_false h2
      have g3 : isLane lo hi s r (lo + d2) = false := by
        unfold isLane
        exact decide_eq_false (fun z => h2 z.2.1)
      rw [g3] at ebl hm
      clear h2
      unfold q__law_counts_right_9
      iterate 4 (walk_at "ev"; try walk_at "evs")
  unfold m__law_counts_right
  rw [g__law_counts_right_eq]
  show endF (gSeq _ _ ⟨[some (.bor 0), some (.val (gt lo hi s r)), none, none, none, none, none, none, none], [m]⟩) = _
  rw [seq_nx q1, seq_nx q2, seq_nx q3, seq_nx q4, seq_nx q5, seq_nx q6, seq_nx q7, seq_nx q8, seq_rt q9]
  rfl
/-! ### the common guards -/
theorem e_cbody {n : Nat} {m : MO} (h : Src n m) (hn : n < 2 ^ 50) (one bi spot st : Int) (L : List PV) (w6 : Option SV) (hL : L.length ≤ 10) (sp0 : 0 ≤ spot) (sp1 : spot < 10 ^ 30) (st0 : 0 < st) :
    ∃ lo hi m' w6', l__law_common_1c ⟨[some (.bor 0), some (.val (.int one)), some (.val (.int bi)), some (.val (.int spot)), some (.own (.lst L)), some (.val (.int st)), w6, none, none], [m]⟩ = .nx ⟨[some (.bor 0), some (.val (.int one)), some (.val (.int bi)), some (.val (.int spot)), some (.own (.lst (L ++ [gt lo hi st (spot % st)]))), some (.val (.int st)), w6', none, none], [m']⟩ ∧ 0 ≤ lo ∧ lo ≤ spot ∧ spot < hi ∧ hi ≤ 10 ^ 30 ∧ Src (n + 3) m' := by
  obtain ⟨d1, m1, e1, a1, b1, c1⟩ := e_draw h (by omega) (spot + 1) (by omega) (by omega)
  obtain ⟨d2, m2, e2, a2, b2, c2⟩ := e_draw c1 (by omega) 3 (by decide) (by decide)
  obtain ⟨d3, m3, e3, a3, b3, c3⟩ := e_draw c2 (by omega) (10 ^ Int.toNat 30 - spot) (by show 0 < (10 : Int) ^ 30 - spot; omega) (by show ((10 : Int) ^ 30 - spot).natAbs < 2 ^ 8000; omega)
  obtain ⟨w, hw, hv⟩ := pick3 1 (10 ^ Int.toNat 9) (10 ^ Int.toNat 20) d2 a2 b2
  have w0 : 0 < w ∧ w ≤ 10 ^ 20 := by rcases hv with rfl | rfl | rfl <;> decide
  have od : okDiv w = true := okDiv_of (b := 100) (by omega) (by omega) (by decide) (by decide)
  have fd : d1.fdiv w = d1 / w := Int.fdiv_eq_ediv_of_nonneg _ (by omega)
  have q0 : 0 ≤ d1 / w := Int.ediv_nonneg a1 (by omega)
  have o1 : okPow 10 9 = true := by decide +kernel
  have o2 : okPow 10 20 = true := by decide +kernel
  have o3 : okPow 10 30 = true := by decide +kernel
  have fm : spot.fmod st = spot % st := Int.fmod_eq_emod_of_nonneg _ (by omega)
  have zs : (st = 0) = False := by simp; omega
  have hL2 : (L.length < 16777216) = True := by simp; omega
  have b3' : d3 < (10 : Int) ^ 30 - spot := b3
  refine ⟨if spot - d1 / w > 0 then spot - d1 / w else 0, spot + 1 + d3, m3, some (.val (.int (spot - d1 / w))), ?_, by split <;> omega, by split <;> omega, by omega, by omega, c3⟩
  have s1 : l__law_common_1c_s1 ⟨[some (.bor 0), some (.val (.int one)), some (.val (.int bi)), some (.val (.int spot)), some (.own (.lst L)), some (.val (.int st)), w6, none, none], [m]⟩ = .nx ⟨[some (.bor 0), some (.val (.int one)), some (.val (.int bi)), some (.val (.int spot)), some (.own (.lst L)), some (.val (.int st)), some (.val (.int (spot - d1 / w))), none, none], [m2]⟩ := by
    clear h c1 c2 c3 b3 b3'
    unfold l__law_common_1c_s1
    iterate 8 (walk_at "ev"; try walk_at "evs")
  have s2 : l__law_common_1c_s2 ⟨[some (.bor 0), some (.val (.int one)), some (.val (.int bi)), some (.val (.int spot)), some (.own (.lst L)), some (.val (.int st)), some (.val (.int (spot - d1 / w))), none, none], [m2]⟩ = .nx ⟨[some (.bor 0), some (.val (.int one)), some (.val (.int bi)), some (.val (.int spot)), some (.own (.lst (L ++ [gt (if spot - d1 / w > 0 then spot - d1 / w else 0) (spot + 1 + d3) st (spot % st)]))), some (.val (.int st)), some (.val (.int (spot - d1 / w))), none, none], [m3]⟩ := by
    clear h c1 c2 c3 b3 b3'
    unfold l__law_common_1c_s2
    iterate 6 (walk_at "ev"; try walk_at "evs")
  unfold l__law_common_1c
  rw [seq_nx s1, seq_nx s2]
  rfl
/-- what _law_common answers -/
structure Com (out : List PV) (l1 h1 s1 l2 h2 s2 one bi spot : Int) : Prop where
  eq : out = [gt l1 h1 s1 (spot % s1), gt l2 h2 s2 (spot % s2), gt (max l1 l2) (min h1 h2) (one * bi * (bi + 1)) (spot % (one * bi * (bi + 1))), .int spot, .int one]
  g1 : Gz l1 h1 s1 (spot % s1) spot
  g2 : Gz l2 h2 s2 (spot % s2) spot
  e1 : s1 = one * bi
  e2 : s2 = one * (bi + 1)
  o0 : 0 < one
  o1 : one ≤ 10 ^ 14
  b0 : 0 < bi
  b1 : bi ≤ 10 ^ 7
theorem e_common {n : Nat} {m : MO} (h : Src n m) (hn : n < 2 ^ 49) : ∃ out m' l1 h1 s1 l2 h2 s2 one bi spot, m__law_common [.bor 0] [m] = .ok (.lst out) [m'] ∧ Com out l1 h1 s1 l2 h2 s2 one bi spot ∧ Src (n + 10) m' := by
  obtain ⟨d1, m1, e1, a1, b1, c1⟩ := e_draw h (by omega) 3 (by decide) (by decide)
  obtain ⟨w, hw, hv⟩ := pick3 9 (10 ^ Int.toNat 9) (10 ^ Int.toNat 14) d1 a1 b1
  have w0 : 0 < w ∧ w ≤ 10 ^ 14 := by rcases hv with rfl | rfl | rfl <;> decide
  obtain ⟨d2, m2, e2, a2, b2, c2⟩ := e_draw c1 (by omega) w (by omega) (by omega)
  obtain ⟨d3, m3, e3, a3, b3, c3⟩ := e_draw c2 (by omega) (10 ^ Int.toNat 7) (by decide) (by decide +kernel)
  obtain ⟨spot, m4, e4, a4, b4, c4⟩ := e_draw c3 (by omega) (10 ^ Int.toNat 30) (by decide) (by decide +kernel)
  have o7 : okPow 10 7 = true := by decide +kernel
  have o1 : okPow 10 9 = true := by decide +kernel
  have o2 : okPow 10 14 = true := by decide +kernel
  have o3 : okPow 10 30 = true := by decide +kernel
  have b3' : d3 < 10 ^ 7 := b3
  have b4' : spot < 10 ^ 30 := b4
  have q1 : q__law_common_1 ⟨[some (.bor 0), none, none, none, none, none, none, none, none], [m]⟩ = .nx ⟨[some (.bor 0), some (.val (.int (1 + d2))), some (.val (.int (1 + d3))), none, none, none, none, none, none], [m3]⟩ := by
    clear h c1 c2 c3 c4 b3 b3' b4 b4'
    unfold q__law_common_1
    iterate 6 (walk_at "ev"; try walk_at "evs")
  have q2 : q__law_common_2 ⟨[some (.bor 0), some (.val (.int (1 + d2))), some (.val (.int (1 + d3))), none, none, none, none, none, none], [m3]⟩ = .nx ⟨[some (.bor 0), some (.val (.int (1 + d2))), some (.val (.int (1 + d3))), some (.val (.int spot)), some (.own (.lst [])), none, none, none, none], [m4]⟩ := by
    have h49 : (4 < 9) = True := by simp
    clear h c1 c2 c3 c4 b3 b3' b4 b4'
    unfold q__law_common_2
    iterate 6 (walk_at "ev"; try walk_at "evs")
  obtain ⟨one, ho⟩ : ∃ o, o = 1 + d2 := ⟨_, rfl⟩
  obtain ⟨bi, hb⟩ : ∃ o, o = 1 + d3 := ⟨_, rfl⟩
  rw [← ho, ← hb] at q1 q2
  have p1 : 0 < one * bi := Int.mul_pos (by omega) (by omega)
  have p2 : 0 < one * (bi + 1) := Int.mul_pos (by omega) (by omega)
  have u1 : one * bi ≤ 10 ^ 14 * 10 ^ 7 := Int.mul_le_mul (by omega) (by omega) (by omega) (by decide)
  have u2 : one * (bi + 1) ≤ 10 ^ 14 * (10 ^ 7 + 1) := Int.mul_le_mul (by omega) (by omega) (by omega) (by decide)
  have k1 : okMul one bi = true := okMul_of (a := 50) (b := 30) (by omega) (by omega) (by decide) (by decide) (by decide)
  have k2 : okMul one (bi + 1) = true := okMul_of (a := 50) (b := 30) (by omega) (by omega) (by decide) (by decide) (by decide)
  have k3 : okMul (one * bi) (bi + 1) = true := okMul_of (a := 80) (b := 30) (by omega) (by omega) (by decide) (by decide) (by decide)
  obtain ⟨l1, h1, m5, w5, f1, x1, x2, x3, x4, c5⟩ := e_cbody c4 (by omega) one bi spot (one * bi) [] none (by simp) a4 b4' p1
  obtain ⟨l2, h2, m6, w6, f2, y1, y2, y3, y4, c6⟩ := e_cbody c5 (by omega) one bi spot (one * (bi + 1)) [gt l1 h1 (one * bi) (spot % (one * bi))] w5 (by simp) a4 b4' p2
  have q3 : q__law_common_3 ⟨[some (.bor 0), some (.val (.int one)), some (.val (.int bi)), some (.val (.int spot)), some (.own (.lst [])), none, none, none, none], [m4]⟩ = .nx ⟨[some (.bor 0), some (.val (.int one)), some (.val (.int bi)), some (.val (.int spot)), some (.own (.lst [gt l1 h1 (one * bi) (spot % (one * bi)), gt l2 h2 (one * (bi + 1)) (spot % (one * (bi + 1)))])), some (.val (.int (one * (bi + 1)))), w6, none, none], [m6]⟩ := by
    have fl : forL l__law_common_1b l__law_common_1c [.int (one * bi), .int (one * (bi + 1))] ⟨[some (.bor 0), some (.val (.int one)), some (.val (.int bi)), some (.val (.int spot)), some (.own (.lst [])), none, none, none, none], [m4]⟩ = .nx ⟨[some (.bor 0), some (.val (.int one)), some (.val (.int bi)), some (.val (.int spot)), some (.own (.lst [gt l1 h1 (one * bi) (spot % (one * bi)), gt l2 h2 (one * (bi + 1)) (spot % (one * (bi + 1)))])), some (.val (.int (one * (bi + 1)))), w6, none, none], [m6]⟩ := by
      rw [forL_cons _ _ _ _ _ ⟨[some (.bor 0), some (.val (.int one)), some (.val (.int bi)), some (.val (.int spot)), some (.own (.lst [])), some (.val (.int (one * bi))), none, none, none], [m4]⟩ rfl, f1]
      simp only []
      rw [forL_cons _ _ _ _ _ ⟨[some (.bor 0), some (.val (.int one)), some (.val (.int bi)), some (.val (.int spot)), some (.own (.lst ([] ++ [gt l1 h1 (one * bi) (spot % (one * bi))]))), some (.val (.int (one * (bi + 1)))), w5, none, none], [m5]⟩ rfl]
      rw [List.nil_append, f2]
      rfl
    clear h c1 c2 c3 c4 b3 b3' b4 b4' q1 q2 p1 p2 u1 u2 ho hb f1 f2 x1 x2 x3 x4 y1 y2 y3 y4 c5 c6
    unfold q__law_common_3
    iterate 5 (walk_at "ev"; try walk_at "evs")
  have pw : 0 < one * bi * (bi + 1) := Int.mul_pos p1 (by omega)
  have fw : spot.fmod (one * bi * (bi + 1)) = spot % (one * bi * (bi + 1)) := Int.fmod_eq_emod_of_nonneg _ (by omega)
  have zw : (one * bi * (bi + 1) = 0) = False := by simp only [eq_iff_iff, iff_false]; omega
  refine ⟨[gt l1 h1 (one * bi) (spot % (one * bi)), gt l2 h2 (one * (bi + 1)) (spot % (one * (bi + 1))), gt (max l1 l2) (min h1 h2) (one * bi * (bi + 1)) (spot % (one * bi * (bi + 1))), .int spot, .int one], m6, l1, h1, one * bi, l2, h2, one * (bi + 1), one, bi, spot, ?_, ⟨rfl, ⟨x1, x2, x3, x4, p1, by omega, rfl⟩, ⟨y1, y2, y3, y4, p2, by omega, rfl⟩, rfl, rfl, by omega, by omega, by omega, by omega⟩, c6⟩
  have em := max_ifs l1 l2
  have en := min_ifs h1 h2
  generalize hg1 : spot % (one * bi) = r1 at *
  generalize hg2 : spot % (one * (bi + 1)) = r2 at *
  have q4 : q__law_common_4 ⟨[some (.bor 0), some (.val (.int one)), some (.val (.int bi)), some (.val (.int spot)), some (.own (.lst [gt l1 h1 (one * bi) r1, gt l2 h2 (one * (bi + 1)) r2])), some (.val (.int (one * (bi + 1)))), w6, none, none], [m6]⟩ = .nx ⟨[some (.bor 0), some (.val (.int one)), some (.val (.int bi)), some (.val (.int spot)), some (.own (.lst [gt l1 h1 (one * bi) r1, gt l2 h2 (one * (bi + 1)) r2])), some (.val (.int (one * (bi + 1)))), w6, some (.val (.int (one * bi * (bi + 1)))), none], [m6]⟩ := by
    clear h c1 c2 c3 c4 b3 b3' b4 b4' q1 q2 q3 p1 p2 u1 u2 ho hb f1 f2 x1 x2 x3 x4 y1 y2 y3 y4 c5 c6 hg1 hg2
    unfold q__law_common_4
    iterate 5 (walk_at "ev"; try walk_at "evs")
  have q5 : q__law_common_5 ⟨[some (.bor 0), some (.val (.int one)), some (.val (.int bi)), some (.val (.int spot)), some (.own (.lst [gt l1 h1 (one * bi) r1, gt l2 h2 (one * (bi + 1)) r2])), some (.val (.int (one * (bi + 1)))), w6, some (.val (.int (one * bi * (bi + 1)))), none], [m6]⟩ = .nx ⟨[some (.bor 0), some (.val (.int one)), some (.val (.int bi)), some (.val (.int spot)), some (.own (.lst [gt l1 h1 (one * bi) r1, gt l2 h2 (one * (bi + 1)) r2])), some (.val (.int (one * (bi + 1)))), some (.val (.int (max l1 l2))), some (.val (.int (one * bi * (bi + 1)))), some (.val (.int (min h1 h2)))], [m6]⟩ := by
    clear h c1 c2 c3 c4 b3 b3' b4 b4' q1 q2 q3 q4 p1 p2 u1 u2 ho hb f1 f2 x1 x2 x3 x4 y1 y2 y3 y4 c5 c6 hg1 hg2
    unfold q__law_common_5
    iterate 5 (walk_at "ev"; try walk_at "evs")
  have q6 : q__law_common_6 ⟨[some (.bor 0), some (.val (.int one)), some (.val (.int bi)), some (.val (.int spot)), some (.own (.lst [gt l1 h1 (one * bi) r1, gt l2 h2 (one * (bi + 1)) r2])), some (.val (.int (one * (bi + 1)))), some (.val (.int (max l1 l2))), some (.val (.int (one * bi * (bi + 1)))), some (.val (.int (min h1 h2)))], [m6]⟩ = .rt (.lst [gt l1 h1 (one * bi) r1, gt l2 h2 (one * (bi + 1)) r2, gt (max l1 l2) (min h1 h2) (one * bi * (bi + 1)) (spot % (one * bi * (bi + 1))), .int spot, .int one]) ⟨[some (.bor 0), some (.val (.int one)), some (.val (.int bi)), some (.val (.int spot)), some (.own (.lst [gt l1 h1 (one * bi) r1, gt l2 h2 (one * (bi + 1)) r2])), some (.val (.int (one * (bi + 1)))), some (.val (.int (max l1 l2))), some (.val (.int (one * bi * (bi + 1)))), some (.val (.int (min h1 h2)))], [m6]⟩ := by
    clear h c1 c2 c3 c4 b3 b3' b4 b4' q1 q2 q3 q4 q5 p1 p2 u1 u2 ho hb f1 f2 x1 x2 x3 x4 y1 y2 y3 y4 c5 c6 hg1 hg2
    unfold q__law_common_6
    iterate 5 (walk_at "ev"; try walk_at "evs")
  unfold m__law_common
  rw [g__law_common_eq]
  show endF (gSeq _ _ ⟨[some (.bor 0), none, none, none, none, none, none, none, none], [m]⟩) = _
  rw [seq_nx q1, seq_nx q2, seq_nx q3, seq_nx q4, seq_nx q5, seq_rt q6]
  rfl
/-! ### the law -/
theorem meet_com {l1 h1 s1 l2 h2 s2 one bi spot : Int} {m : PV} (g1 : Gz l1 h1 s1 (spot % s1) spot) (g2 : Gz l2 h2 s2 (spot % s2) spot) (e1 : s1 = one * bi) (e2 : s2 = one * (bi + 1)) (o0 : 0 < one) (b0 : 0 < bi)
    (hm : MeetIs l1 h1 s1 (spot % s1) l2 h2 s2 (spot % s2) m) : m = gt (max l1 l2) (min h1 h2) (one * bi * (bi + 1)) (spot % (one * bi * (bi + 1))) := by
  have a1 := g1.lz; have a2 := g1.zh; have a3 := g2.lz; have a4 := g2.zh
  rcases hm with ⟨_, hno⟩ | ⟨t, c, rfl, t0, c0, c1, tb, hiff, d1, d2, tl, dm, hlan⟩
  · exact absurd ⟨rfl, rfl⟩ (hno spot (by omega) (by omega))
  · have et : t = one * bi * (bi + 1) := lcm2 o0 b0 t0 (by rw [← e1]; exact d1) (by rw [← e2]; exact d2) (by rw [← e1, ← e2]; exact dm)
    have ec := (hiff spot).mp ⟨rfl, rfl⟩
    rw [← et, ec]
theorem meet_moc {l1 h1 s1 l2 h2 s2 one bi spot : Int} {m : PV} (g1 : Gz l1 h1 s1 (spot % s1) spot) (g2 : Gz l2 h2 s2 (spot % s2) spot) (e1 : s1 = one * bi) (e2 : s2 = one * (bi + 1)) (o0 : 0 < one) (b0 : 0 < bi)
    (hm : MeetIs l2 h2 s2 (spot % s2) l1 h1 s1 (spot % s1) m) : m = gt (max l1 l2) (min h1 h2) (one * bi * (bi + 1)) (spot % (one * bi * (bi + 1))) := by
  have a1 := g1.lz; have a2 := g1.zh; have a3 := g2.lz; have a4 := g2.zh
  rcases hm with ⟨_, hno⟩ | ⟨t, c, rfl, t0, c0, c1, tb, hiff, d1, d2, tl, dm, hlan⟩
  · exact absurd ⟨rfl, rfl⟩ (hno spot (by omega) (by omega))
  · have et : t = one * bi * (bi + 1) := lcm2 o0 b0 t0 (by rw [← e1]; exact d2) (by rw [← e2]; exact d1) (by rw [← e1, ← e2]; exact fun d k1 k2 => dm d k2 k1)
    have ec := (hiff spot).mp ⟨rfl, rfl⟩
    rw [← et, ec, show max l2 l1 = max l1 l2 by omega, show min h2 h1 = min h1 h2 by omega]
theorem odd_none {l1 h1 s1 r1 l2 h2 s2 r3 one bi : Int} {m : PV} (e1 : s1 = one * bi) (e2 : s2 = one * (bi + 1)) (hne : ¬ r3 % one = r1 % one) (hm : MeetIs l1 h1 s1 r1 l2 h2 s2 r3 m) : m = .non := by
  rcases hm with ⟨rfl, hno⟩ | ⟨t, c, rfl, t0, c0, c1, tb, hiff, d1, d2, tl, dm, hlan⟩
  · rfl
  · exfalso
    have z := (hiff c).mpr (Int.emod_eq_of_lt c0 c1)
    have k1 : c % one = r1 % one := by rw [← z.1, Int.emod_emod_of_dvd _ ⟨bi, e1⟩]
    have k2 : c % one = r3 % one := by rw [← z.2, Int.emod_emod_of_dvd _ ⟨bi + 1, e2⟩]
    exact hne (by rw [← k1, ← k2])
theorem gt_self {l h s r : Int} (hl : l.natAbs < 10 ^ 60) (hh : h.natAbs < 10 ^ 60) (hs : s.natAbs < 10 ^ 60) (hr : r.natAbs < 10 ^ 60) : pEqB (gt l h s r) (gt l h s r) = some true := by
  refine (Rk.tup (n := 61) (k := 0) ?_).eq_self (by omega)
  intro p hp
  simp only [List.mem_cons, List.not_mem_nil, or_false] at hp
  rcases hp with rfl | rfl | rfl | rfl <;> exact Rk.int10 (by decide) (by decide) (by assumption)
theorem e_turn {n : Nat} {m : MO} (h : Src n m) (hn : n < 2 ^ 48) (ns : List Int) (tn : PV) (w3 w4 w5 w6 w7 w8 : Option SV) : ∃ m' v3 v4 v5 v6 v7 v8, l_law_1c ⟨[some (.val (scrOf ns)), some (.own m), some (.val tn), w3, w4, w5, w6, w7, w8], []⟩ = .nx ⟨[some (.val (scrOf ns)), some (.own m'), some (.val tn), v3, v4, v5, v6, v7, v8], []⟩ ∧ Src (n + 15) m' := by
  obtain ⟨out, m1, l1, h1, s1, l2, h2, s2, one, bi, spot, ec, C, c1⟩ := e_common h (by omega)
  have g1 := C.g1; have g2 := C.g2; have o0 := C.o0; have b0 := C.b0; have e1 := C.e1; have e2 := C.e2; have ob := C.o1; have bb := C.b1
  have eq := C.eq
  subst eq
  clear C
  have p1 : 0 < one * bi := Int.mul_pos o0 b0
  have u1 : one * bi ≤ 10 ^ 14 * 10 ^ 7 := Int.mul_le_mul ob bb (by omega) (by decide)
  have pw : 0 < one * bi * (bi + 1) := Int.mul_pos p1 (by omega)
  have uw : one * bi * (bi + 1) ≤ (10 ^ 14 * 10 ^ 7) * (10 ^ 7 + 1) := Int.mul_le_mul u1 (by omega) (by omega) (by decide)
  have x1 := g1.l0; have x2 := g1.lz; have x3 := g1.zh; have x4 := g1.h1
  have y1 := g2.l0; have y2 := g2.lz; have y3 := g2.zh; have y4 := g2.h1
  have g3 : Gz (max l1 l2) (min h1 h2) (one * bi * (bi + 1)) (spot % (one * bi * (bi + 1))) spot := ⟨by omega, by omega, by omega, by omega, pw, by omega, rfl⟩
  obtain ⟨z1, em1, k1⟩ := e_met _ _ _ _ _ _ _ _ g1.guard g2.guard (Nat.lt_of_lt_of_le g1.sb (Nat.pow_le_pow_right (by decide) (by decide))) (Nat.lt_of_lt_of_le g2.sb (Nat.pow_le_pow_right (by decide) (by decide)))
  obtain ⟨z2, em2, k2⟩ := e_met _ _ _ _ _ _ _ _ g2.guard g1.guard (Nat.lt_of_lt_of_le g2.sb (Nat.pow_le_pow_right (by decide) (by decide))) (Nat.lt_of_lt_of_le g1.sb (Nat.pow_le_pow_right (by decide) (by decide)))
  have q1 := meet_com g1 g2 e1 e2 o0 b0 k1
  have q2 := meet_moc g1 g2 e1 e2 o0 b0 k2
  subst q1 q2
  have hl := e_has_lane _ _ _ _ spot g3.guard
  have hl1 : isLane (max l1 l2) (min h1 h2) (one * bi * (bi + 1)) (spot % (one * bi * (bi + 1))) spot = true := by
    unfold isLane
    exact decide_eq_true ⟨by omega, by omega, rfl⟩
  have t0 := g3.r0; have t1 := g3.r1
  have es := gt_self (l := max l1 l2) (h := min h1 h2) (s := one * bi * (bi + 1)) (r := spot % (one * bi * (bi + 1))) (by omega) (by omega) (by omega) (by omega)
  obtain ⟨m2, f2, c2⟩ := e_counts c1 (by omega) g1
  obtain ⟨m3, f3, c3⟩ := e_counts c2 (by omega) g3
  have gg1 := g1.guard; have sb1 := g1.sb; have sb2 := g2.sb; have s20 := g2.s0; have gg2 := guard_iff.mp g2.guard
  generalize one * bi * (bi + 1) = s3 at *
  generalize spot % s1 = r1 at *
  generalize spot % s2 = r2 at *
  generalize spot % s3 = r3 at *
  generalize max l1 l2 = l3 at *
  generalize min h1 h2 = h3 at *
  have qa : l_law_1c_s1 ⟨[some (.val (scrOf ns)), some (.own m), some (.val tn), w3, w4, w5, w6, w7, w8], []⟩ = .nx ⟨[some (.val (scrOf ns)), some (.own m1), some (.val tn), some (.val (gt l1 h1 s1 r1)), some (.val (gt l2 h2 s2 r2)), some (.val (gt l3 h3 s3 r3)), some (.val (.int spot)), some (.val (.int one)), w8], []⟩ := by
    clear h c1 c2 c3 k1 k2 g1 g2 g3 e1 e2 t0 t1 gg2
    unfold l_law_1c_s1
    iterate 5 (walk_at "ev"; try walk_at "evs")
  have qb : l_law_1c_s2 ⟨[some (.val (scrOf ns)), some (.own m1), some (.val tn), some (.val (gt l1 h1 s1 r1)), some (.val (gt l2 h2 s2 r2)), some (.val (gt l3 h3 s3 r3)), some (.val (.int spot)), some (.val (.int one)), w8], []⟩ = .nx ⟨[some (.val (scrOf ns)), some (.own m1), some (.val tn), some (.val (gt l1 h1 s1 r1)), some (.val (gt l2 h2 s2 r2)), some (.val (gt l3 h3 s3 r3)), some (.val (.int spot)), some (.val (.int one)), w8], []⟩ := by
    clear h c1 c2 c3 k1 k2 g1 g2 g3 e1 e2 t0 t1 gg2
    unfold l_law_1c_s2
    iterate 5 (walk_at "ev"; try walk_at "evs")
  have qc : l_law_1c_s3 ⟨[some (.val (scrOf ns)), some (.own m1), some (.val tn), some (.val (gt l1 h1 s1 r1)), some (.val (gt l2 h2 s2 r2)), some (.val (gt l3 h3 s3 r3)), some (.val (.int spot)), some (.val (.int one)), w8], []⟩ = .nx ⟨[some (.val (scrOf ns)), some (.own m3), some (.val tn), some (.val (gt l1 h1 s1 r1)), some (.val (gt l2 h2 s2 r2)), some (.val (gt l3 h3 s3 r3)), some (.val (.int spot)), some (.val (.int one)), w8], []⟩ := by
    clear h c1 c2 c3 k1 k2 g1 g2 g3 e1 e2 t0 t1 gg2
    unfold l_law_1c_s3
    iterate 5 (walk_at "ev"; try walk_at "evs")
  have qd : ∃ m4 v8, l_law_1c_s4 ⟨[some (.val (scrOf ns)), some (.own m3), some (.val tn), some (.val (gt l1 h1 s1 r1)), some (.val (gt l2 h2 s2 r2)), some (.val (gt l3 h3 s3 r3)), some (.val (.int spot)), some (.val (.int one)), w8], []⟩ = .nx ⟨[some (.val (scrOf ns)), some (.own m4), some (.val tn), some (.val (gt l1 h1 s1 r1)), some (.val (gt l2 h2 s2 r2)), some (.val (gt l3 h3 s3 r3)), some (.val (.int spot)), some (.val (.int one)), v8], []⟩ ∧ Src (n + 15) m4 := by
    by_cases ho : one > 1
    · have ho1 : decide (one > 1) = true := decide_eq_true ho
      obtain ⟨d, m4, e4, a4, b4, c4⟩ := e_draw c3 (by omega) (one - 1) (by omega) (by omega)
      have zs : (s2 = 0) = False := by simp; omega
      have zo : (one = 0) = False := by simp; omega
      have fm : (r2 + 1 + d).fmod s2 = (r2 + 1 + d) % s2 := Int.fmod_eq_emod_of_nonneg _ (by omega)
      have r50 : 0 ≤ (r2 + 1 + d) % s2 := Int.emod_nonneg _ (by omega)
      have r51 : (r2 + 1 + d) % s2 < s2 := Int.emod_lt_of_pos _ (by omega)
      generalize (r2 + 1 + d) % s2 = r5 at *
      have fo1 : r5.fmod one = r5 % one := Int.fmod_eq_emod_of_nonneg _ (by omega)
      have fo2 : r1.fmod one = r1 % one := Int.fmod_eq_emod_of_nonneg _ (by omega)
      obtain ⟨z5, em5, k5⟩ := e_met l1 h1 s1 r1 l2 h2 s2 r5 gg1 (guard_iff.mpr ⟨by omega, by omega, r50, r51⟩) (Nat.lt_of_lt_of_le sb1 (Nat.pow_le_pow_right (by decide) (by decide))) (Nat.lt_of_lt_of_le sb2 (Nat.pow_le_pow_right (by decide) (by decide)))
      refine ⟨m4, some (.val (gt l2 h2 s2 r5)), ?_, c4.mono (by omega)⟩
      by_cases hr : r5 % one = r1 % one
      · have be : (r5 % one == r1 % one) = true := by rw [beq_iff_eq]; exact hr
        clear h c1 c2 c3 c4 k1 k2 g1 g2 g3 e1 e2 t0 t1 gg2 k5 hr qa qb qc
        unfold l_law_1c_s4
        iterate 6 (walk_at "ev"; try walk_at "evs")
      · have be : (r5 % one == r1 % one) = false := beq_eq_false_iff_ne.mpr hr
        have z50 := odd_none e1 e2 hr k5
        subst z50
        clear h c1 c2 c3 c4 k1 k2 g1 g2 g3 e1 e2 t0 t1 gg2 k5 hr qa qb qc
        unfold l_law_1c_s4
        iterate 6 (walk_at "ev"; try walk_at "evs")
    · have ho1 : decide (one > 1) = false := decide_eq_false ho
      refine ⟨m3, w8, ?_, c3.mono (by omega)⟩
      clear h c1 c2 c3 k1 k2 g1 g2 g3 e1 e2 t0 t1 gg2 qa qb qc ho
      unfold l_law_1c_s4
      iterate 5 (walk_at "ev"; try walk_at "evs")
  obtain ⟨m4, v8, qd, c4⟩ := qd
  have fin : l_law_1c ⟨[some (.val (scrOf ns)), some (.own m), some (.val tn), w3, w4, w5, w6, w7, w8], []⟩ = .nx ⟨[some (.val (scrOf ns)), some (.own m4), some (.val tn), some (.val (gt l1 h1 s1 r1)), some (.val (gt l2 h2 s2 r2)), some (.val (gt l3 h3 s3 r3)), some (.val (.int spot)), some (.val (.int one)), v8], []⟩ := by
    unfold l_law_1c
    rw [seq_nx qa, seq_nx qb, seq_nx qc, seq_nx qd]
    rfl
  exact ⟨m4, _, _, _, _, _, _, fin, c4⟩
theorem law_true : ∀ ns : List Int, ns.length ≤ 63 → m_law [.val (scrOf ns)] [] = .ok (.bl true) [] := by
  intro ns hns
  obtain ⟨m, em, hm⟩ := e_source ns hns
  have q1 : q_law_1 ⟨[some (.val (scrOf ns)), none, none, none, none, none, none, none, none], []⟩ = .nx ⟨[some (.val (scrOf ns)), some (.own m), none, none, none, none, none, none, none], []⟩ := by
    clear hm
    have h17 : (1 < 9) = True := by simp
    unfold q_law_1
    iterate 3 (walk_at "ev"; try walk_at "evs")
  have key := forL_inv (a := l_law_1b) (b := l_law_1c) (fun i s => ∃ m w2 w3 w4 w5 w6 w7 w8, s = ⟨[some (.val (scrOf ns)), some (.own m), w2, w3, w4, w5, w6, w7, w8], []⟩ ∧ (i ≤ 65 → Src (15 * i) m)) (rng 0 (2 + (if ((ns.map PV.int).length : Int) < 6 then ((ns.map PV.int).length : Int) else 6)).toNat) 0 ⟨[some (.val (scrOf ns)), some (.own m), none, none, none, none, none, none, none], []⟩ ⟨m, none, none, none, none, none, none, none, rfl, fun _ => hm⟩ ?_
  · obtain ⟨s2, e2, m2, w2, w3, w4, w5, w6, w7, w8, rfl, _⟩ := key
    have i1 : PL.inR (2 + (if ((ns.map PV.int).length : Int) < 6 then ((ns.map PV.int).length : Int) else 6)) = true := inR_of (by split <;> omega)
    have q2 : q_law_2 ⟨[some (.val (scrOf ns)), some (.own m), none, none, none, none, none, none, none], []⟩ = .nx ⟨[some (.val (scrOf ns)), some (.own m2), w2, w3, w4, w5, w6, w7, w8], []⟩ := by
      clear hm em q1
      unfold q_law_2
      simp only [scrOf] at e2 ⊢
      iterate 4 (walk_at "ev"; try walk_at "evs")
    have q3 : q_law_3 ⟨[some (.val (scrOf ns)), some (.own m2), w2, w3, w4, w5, w6, w7, w8], []⟩ = .rt (.bl true) ⟨[some (.val (scrOf ns)), some (.own m2), w2, w3, w4, w5, w6, w7, w8], []⟩ := by
      have o7 : okDiv 7 = true := okDiv_of (b := 10) (by omega) (by omega) (by decide) (by decide)
      have c1 := e_count 3 (10 ^ Int.toNat 30) 7 3 (by decide +kernel) o7
      have o3 : okPow 10 30 = true := by decide +kernel
      have ee : (lanesOf 3 (10 ^ Int.toNat 30) 7 3 == ((10 : Int) ^ Int.toNat 30 - 1).fdiv 7) = true := by decide +kernel
      clear e2 i1 q1 q2 hm em
      unfold q_law_3
      iterate 4 (walk_at "ev"; try walk_at "evs")
    unfold m_law
    rw [g_law_eq]
    show endF (gSeq _ _ ⟨[some (.val (scrOf ns)), none, none, none, none, none, none, none, none], []⟩) = _
    rw [seq_nx q1, seq_nx q2, seq_rt q3]
    rfl
  · rintro i p s hp ⟨m, w2, w3, w4, w5, w6, w7, w8, rfl, hs⟩
    have hi := (List.getElem?_eq_some_iff.mp hp).1
    rw [rng_length] at hi
    have hi2 : i ≤ 64 := by
      have : (2 + (if ((ns.map PV.int).length : Int) < 6 then ((ns.map PV.int).length : Int) else 6)).toNat ≤ 8 := by split <;> omega
      omega
    refine ⟨⟨[some (.val (scrOf ns)), some (.own m), some (.val p), w3, w4, w5, w6, w7, w8], []⟩, rfl, ?_⟩
    obtain ⟨m', v3, v4, v5, v6, v7, v8, ee, hs'⟩ := e_turn (hs (by omega)) (by omega) ns p w3 w4 w5 w6 w7 w8
    exact ⟨_, .inl ee, m', some (.val p), v3, v4, v5, v6, v7, v8, rfl, fun _ => hs'.mono (by omega)⟩
end K03

open PySem PySem.W PyProof.Rows
set_option maxRecDepth 100000 in
set_option maxHeartbeats 0 in
theorem PySem.Challenge.cw_stridelanes_k03_far_guards_holds : PySem.Challenge.rw_stridelanes_k03_far_guards.Holds := by
  w_on; o_law; k_head; (case hw => w_witness2)
  k_fill
  refine PL.walk_ofG (l := PySem.Challenge.rw_stridelanes_k03_far_guards) (n := 63) (k := 5) (x := "script") (Cn := fun w => L2.CX PySem.Challenge.rw_stridelanes_k03_far_guards.prog w) (sp := fun w => PL.spOf _ (fun _ => 0) 1 K03.m_law) rfl (by decide) rfl ⟨rfl, by decide, by decide⟩ (fun w h Y => PySem.W.kIn_of Y) ?F (fun w H a ns hl hO hS => PL.law_sp K03.law_true hl hS) (fun w H s e s' h => PL.no_cx h)
  case F =>
    intro w mg fa h KX G hmg
    refine' K03.all_mk KX G hmg ?a0 ?l0 ?c0 ?k0 ?a1 ?l1 ?c1 ?k1 ?a2 ?l2 ?c2 ?k2 ?a3 ?l3 ?c3 ?k3 ?a4 ?l4 ?c4 ?k4 ?a5 ?l5 ?c5 ?k5 ?a6 ?l6 ?c6 ?k6 ?a7 ?l7 ?c7 ?k7 ?a8 ?l8 ?c8 ?k8 ?a9 ?l9 ?c9 ?k9 ?a10 ?l10 ?c10 ?k10 ?a11 ?l11 ?c11 ?k11 ?a12 ?l12 ?c12 ?k12 ?a13 ?l13 ?c13 ?k13 ?a14 ?l14 ?c14 ?k14 ?a15 ?l15 ?c15 ?k15 ?a16 ?l16 ?c16 ?k16 ?z_abs ?z_len ?z_max ?z_min ?z_range ?z_sum
    (case a0 => k_is); (case l0 => k_is); (case c0 => k_is); (case k0 => k_is); (case a1 => k_is); (case l1 => k_is); (case c1 => k_is); (case k1 => k_is); (case a2 => k_is); (case l2 => k_is); (case c2 => k_is); (case k2 => k_is); (case a3 => k_is); (case l3 => k_is); (case c3 => k_is); (case k3 => k_is); (case a4 => k_is); (case l4 => k_is); (case c4 => k_is); (case k4 => k_is); (case a5 => k_is); (case l5 => k_is); (case c5 => k_is); (case k5 => k_is); (case a6 => k_is); (case l6 => k_is); (case c6 => k_is); (case k6 => k_is); (case a7 => k_is); (case l7 => k_is); (case c7 => k_is); (case k7 => k_is); (case a8 => k_is); (case l8 => k_is); (case c8 => k_is); (case k8 => k_is); (case a9 => k_is); (case l9 => k_is); (case c9 => k_is); (case k9 => k_is); (case a10 => k_is); (case l10 => k_is); (case c10 => k_is); (case k10 => k_is); (case a11 => k_is); (case l11 => k_is); (case c11 => k_is); (case k11 => k_is); (case a12 => k_is); (case l12 => k_is); (case c12 => k_is); (case k12 => k_is); (case a13 => k_is); (case l13 => k_is); (case c13 => k_is); (case k13 => k_is); (case a14 => k_is); (case l14 => k_is); (case c14 => k_is); (case k14 => k_is); (case a15 => k_is); (case l15 => k_is); (case c15 => k_is); (case k15 => k_is); (case a16 => k_is); (case l16 => k_is); (case c16 => k_is); (case k16 => k_is); (case z_abs => k_is); (case z_len => k_is); (case z_max => k_is); (case z_min => k_is); (case z_range => k_is); (case z_sum => k_is)
