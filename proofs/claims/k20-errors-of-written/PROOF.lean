import PyProof.Rows.All
import Wide.All
import OpenK.AllK
import Wide.FinOn
import HandS.ForMost
import HandS.ForExc
import HandS.CallSlots
import HandS.Wide
import HandS.Flow
import HandS.Walk
import HandS.Nested
import HandS.ExcCtx
import HandS.TupAny
import HandS.RaiseMore
import HandS.Conv
import HandS.Deep
import PyProof.SumWalkG
import PyProof.Rows.SumAny
import PyProof.TwoTypesSub
import HandS.TryOnly
import HandS.Style
import KE.KExcSuper
import HandS.Exc
import HandS.IsInst
import HandS.Codes
import HandS.Zip
import HandS.WideBits
import HandS.Star
import PyProof.LongRange
import HandS.More
import HandS.Dict
import HandS.HeadHook3
import PyProof.MeetsDict
import HandS.Iter
import HandS.Text
import HandS.Defaults
import PyProof.ListRange
import KE.GoesMore
import PyProof.AutoSeq1
import HandS.Spec
import HandS.Property
import OpenK.KOps
import PyProof.InstNe
import HandS.SortInts
import HandS.SortRule
import KE.KIntText
import PyProof.StrBlock2
import HandS.SetFor
import PyProof.Rows.SortShellAny
import HandS.HotCalls
import HandS.ExcField
import HandS.ExcValue
import KE.KExcIs
import HandS.ExcIs
import HandS.MapJoin
import HandS.Hot
import PySem.Challenge.RW_stridelanes_k20_errors_of_written
set_option Elab.async false
set_option linter.all false
set_option maxRecDepth 100000
set_option maxHeartbeats 4000000
/-! PLG: promises of defs that are called where nothing is being shown (no repr runs around): what repr asks. -/
namespace PL
open PySem PySem.Spec PyProof.Rows L2
/-- as FnOk, at calls around which no guard of repr is open -/
structure FnG (P : Program) (w : World) (K : PySem.W.Frag) (mg : Str → Option Value) (base : Heap) (Cn : CXT) (k : Nat) (f : Addr) (fd : FuncData) (ps : List Str) (sp : Sp) : Prop where
  gl : ∀ vs H Q E, sp vs H Q E → vs.length = ps.length
  go : ∀ (A : Around) (outer : List Env) (s : Shared) (H : Hp) (args : Args) (us : List Value) (vs : List V) (Q : VK) (E : XK),
    Room k A → A.guards = some [] → Env0 P w K mg base A outer s H → BindsTo s fd args (ps.zip us) → Vals vs us → sp vs H Q E →
      codeAny (model P w) A (.call (.ref f) args) (CR Cn outer P w H s Q E) s
theorem FnG.mono {P : Program} {w : World} {K : PySem.W.Frag} {mg : Str → Option Value} {base : Heap} {Cn : CXT} {j k : Nat} {f : Addr} {fd : FuncData} {ps : List Str} {sp : Sp}
    (F : FnG P w K mg base Cn j f fd ps sp) (h : j ≤ k) : FnG P w K mg base Cn k f fd ps sp :=
  ⟨F.gl, fun A outer s H args us vs Q E room => F.go A outer s H args us vs Q E (room.mono h)⟩
section
variable {P : Program} {w : World} {K : PySem.W.Frag} {mg : Str → Option Value} {base : Heap}
/-- a def of the text keeps its promise -/
theorem fng_of {Cn : CXT} {k : Nat} {x qual : Str} {st : Stmt} {f : Addr} {fd : FuncData} {N ps : List Str} {sp : Sp} (F : Fun K x qual st f fd) (S : FnScope N ps (defScope st))
    (gl : ∀ vs H Q E, sp vs H Q E → vs.length = ps.length)
    (hbody : ∀ (cdv : Value) (A : Around) (outer : List Env) (s : Shared) (H : Hp) (vs : List V) (Q : VK) (E : XK), Room k (A.deeper (envOfC qual (defScope st) s.heap.objs.size f cdv)) →
      A.guards = some [] → sp vs H Q E → ∃ t, PSs (cxOf Cn P w K mg base N qual (defScope st) f cdv A outer s H E) (defBody st) t ∧ t { nx := fun _ H' => Q .non H', rt := Q } (start N vs) H) :
    FnG P w K mg base Cn (k + 1) f fd ps sp := by
  obtain ⟨oc, od, kV, doc, pm, an, cdv, ct, osl, rfl, lk, cod⟩ := F.ex
  refine ⟨gl, ?_⟩
  intro A outer s H args us vs Q E room gu e0 bnd rel hsp
  have hlen := gl _ _ _ _ hsp
  have inK : K.In s.heap := e0.mod.kin.keeps fun a u q => (e0.bs a u q).1
  have nolim : s.heap.NoLimit := e0.mod.nolimit.keeps fun a u q => (e0.bs a u q).1
  have kinds : ∀ y ∈ ps.zip us, (defScope st).names.lookup y.1 = some .local ∨
      ((defScope st).names.lookup y.1 = some .cell ∧ ((cellsFrom (s.heap.objs.size + 1) (defScope st).names []).lookup y.1).isSome = true) := by
    rintro ⟨n, v⟩ hy
    cases S.par n (List.of_mem_zip hy).1 with
    | inl z => exact .inl z
    | inr z => exact .inr ⟨z, PySem.W.cellsFrom_some _ _ _ (.inl z)⟩
  refine codeAny_call_function room.depth (inK _ _ lk) rfl S.co S.gen rfl (PySem.W.codeRec_of inK cod) (bnd _ _ _ _ ?_)
  refine wpAny_newFunctionEnv_cells S.kind kinds ?_
  intro env he s1 made
  subst he
  refine ⟨nolim.keeps made.toInCall.keep, codeAny_func ?_⟩
  obtain ⟨t, tr, tq⟩ := hbody cdv A outer s H vs Q E (room.deeper _) gu hsp
  have I0 := inv_start (CX := Cn) (E := E) S room.hd e0 hlen rel made
  refine wpAny_mono (tr.run [] s1 (start N vs) H _ I0 tq) ?_ fun e s' z => z
  intro fl s' end'
  cases fl with
  | brk => obtain ⟨_, _, _, z⟩ := end'; exact z.elim
  | cont => obtain ⟨_, _, _, z⟩ := end'; exact z.elim
  | next =>
    obtain ⟨σ', H', J, z⟩ := end'
    exact ⟨.non, H', J.os, J.bare, J.base, J.hok, rfl, z⟩
  | ret u =>
    obtain ⟨v, σ', H', J, rv, z⟩ := end'
    exact ⟨v, H', J.os, J.bare, J.base, J.hok, rv, z⟩
end
section
variable {X : Cx} {Cn : CXT} {k : Nat} {f : Addr} {fd : FuncData} {ps : List Str} {sp : Sp} {dvs : List V} {ds : List Value} {E : L2.St → XK} {x : Str} {p pos : Pos} {e : Expr} {es : List Expr} {t : TA}
theorem cr_ep {pins : List (Addr × Obj)} {σ : L2.St} {H : Hp} {s : Shared} {Q : VK} {D : XK} (hx : PassesAt Cn X σ D) (I : Inv X pins σ H s) {r : Result} {s' : Shared} (h : CR Cn X.stack X.prog X.w H s Q D r s') :
    match r with
    | .ok (.ret u) => EP X pins σ Q u s'
    | .ok _ => False
    | .error er => X.xe er s' := by
  cases r with
  | error er => exact hx pins H s er s' I h
  | ok fl => cases fl with
    | ret u => exact I.after h
    | next => exact h
    | brk => exact h
    | cont => exact h
theorem run_fng {pins : List (Addr × Obj)} {σ : L2.St} {H : Hp} {s : Shared} {Q : VK} {us : List Value} {vs : List V} (F : FnG X.prog X.w X.K X.mg X.base Cn k f fd ps sp) (room : Room k X.A) (gu : X.A.guards = some [])
    (hb : Binds X.K fd ps ds) (hd : Vals dvs ds) (hx : PassesAt Cn X σ (E σ)) (I : Inv X pins σ H s) (rel : Vals vs us) (h : sp (vs ++ dvs) H Q (E σ)) :
    wpAny (model X.prog X.w) X.A (call (.ref f) us) (EP X pins σ Q) X.xe s := by
  have rel2 : Vals (vs ++ dvs) (us ++ ds) := rel.append hd
  have n2 : (us ++ ds).length = ps.length := by rw [← rel2.length]; exact F.gl _ _ _ _ h
  refine wpAny_call (codeAny_mono (F.go X.A X.stack s H ⟨us, []⟩ (us ++ ds) (vs ++ dvs) Q (E σ) room gu I.env0 (hb s us I.kIn n2) rel2 h) ?_)
  intro r s' z
  have q := cr_ep hx I z
  cases r with
  | error er => exact q
  | ok fl => cases fl <;> first | exact q | exact q.elim
def tCallG (sp : Sp) (dvs : List V) (E : L2.St → XK) (t : TA) : TE := fun σ H Q => t σ H fun vs H1 => sp (vs ++ dvs) H1 Q (E σ)
theorem pe_callG (F : FnG X.prog X.w X.K X.mg X.base Cn k f fd ps sp) (room : Room k X.A) (gu : X.A.guards = some []) (hg : Gl X x) (hm : X.mg x = some (.ref f)) (hk : PySem.W.keepIn X.K (.ref f) = true)
    (hb : Binds X.K fd ps ds) (hd : Vals dvs ds) (hx : ∀ σ, PassesAt Cn X σ (E σ)) (ha : PA X (e :: es) t) (hdb : (x == ("__debug__" : Str)) = false)
    (he : starEach (e :: es) X.env = (false, eval e X.env) :: starEach es X.env) (hpl : (backTo pos (starEach es X.env)).any (·.1) = false) :
    PE X (.Call (.Name x p) (e :: es) [] pos) (tCallG sp dvs E t) := by
  refine ⟨?_⟩
  intro pins s σ H Q I h
  refine wpAny_Call_Name_kw (ld_glob I hg hm ?_ hdb)
  refine PySem.W.callWith_K (h₀ := X.base) I.ok.mod.kin hk (thn (ha.run pos pins s σ H _ I h) ?_) he hpl
  rintro us s1 ⟨vs, H1, I1, rel, q⟩
  exact ⟨I1.kIn, run_fng F room gu hb hd (hx σ) I1 rel q⟩
end
/-! ### the law itself -/
/-- the heap as the law finds it: the script alone is tracked, and locked -/
def hp0 (a : Addr) (o : Obj) (xs : List V) : Hp := fun b => if b = a then some (.frz o (.lst xs)) else none
theorem law_callG {P : Program} {w : World} {K : PySem.W.Frag} {mg mb : Str → Option Value} {Cn : CXT} {k : Nat} {fa a : Addr} {fd : FuncData} {x : Str} {sp : Sp} {s : Shared} {vs : List Value} {ns : List Int}
    (inK : K.In s.heap) (nm : s.heap.Ns mainGlobals mg) (nb : s.heap.Ns builtinsNs mb) (hbb : ∀ y : Str, y ≠ "__name__" → mb y = bootBuiltins y) (lim : s.heap.NoLimit) (gen0 : s.gens = #[])
    (obj : s.heap.get? a = some { cls := .type "list", data := .seq vs.toArray }) (isn : IntsAre vs ns) (small : ns.length ≤ sizeLine) (room : Room k callerA)
    (F : ∀ base : Heap, K.In base → base.Ns mainGlobals mg → FnG P w K mg base Cn k fa fd [x] sp) (bnd : ∀ (s : Shared) (u : Value), BindsTo s fd ⟨[u], []⟩ [(x, u)])
    (hsp : ∀ H : Hp, Only H → SqL K H a (ns.map V.int) → sp [.ref a] H (fun v _ => v = .bl true) fun _ _ _ => False)
    (hCn : ∀ H e s', Cn [] H s (fun _ _ _ => False) e s' → False) :
    codeAny (model P w) callerA (.call (.ref fa) ⟨[.ref a], []⟩) (fun r s' => r = .ok (.ret (.bool true)) ∧ OldK s.heap s'.heap ∧ s'.os = s.os ∧ AllBare s'.gens) s := by
  have rel : Vals (ns.map V.int) vs := L2.vals_ints isn
  have go : ∀ H : Hp, Only H → SqL K H a (ns.map V.int) → HOk P w H s.heap → (∀ b u, H b = some u → b = a ∧ K.lookup a = none) →
      codeAny (model P w) callerA (.call (.ref fa) ⟨[.ref a], []⟩) (fun r s' => r = .ok (.ret (.bool true)) ∧ OldK s.heap s'.heap ∧ s'.os = s.os ∧ AllBare s'.gens) s := by
    intro H only sq held one
    have notDict : ∀ {b : Addr} {o : Obj} {es : Array DictEntry} {ep : Nat}, s.heap.get? b = some o → o.data = .dict es ep → H b = none := by
      intro b o es ep e d
      cases q : H b with
      | none => rfl
      | some u =>
        rw [(one b u q).1, obj] at e
        cases e
        cases d
    have ns' : ∀ {b : Addr} {m : Str → Option Value}, s.heap.Ns b m → (hidT s.heap H).Ns b m := by
      rintro b m ⟨o, es, ep, e, d, r⟩
      exact ⟨o, es, ep, hidT_get e (notDict e d), d, r⟩
    have inB : K.In (hidT s.heap H) := by
      intro b o e
      refine hidT_get (inK b o e) ?_
      cases q : H b with
      | none => rfl
      | some u =>
        obtain ⟨e1, e2⟩ := one b u q
        rw [e1, e2] at e
        cases e
    have md : Mod K mg (hidT s.heap H) := ⟨inB, ns' nm, ⟨mb, ns' nb, hbb⟩, by obtain ⟨mc, c1, c2⟩ := lim; exact ⟨mc, ns' c1, c2⟩⟩
    have e0 : Env0 P w K mg (hidT s.heap H) callerA [] s H :=
      ⟨rfl, md, fun b o e => of_hidT e, Nat.le_of_eq (hidT_size _ _), trivial, fun b hb => by simp [frs] at hb, held, .of_eq gen0⟩
    refine codeAny_mono ((F _ inB (ns' nm)).go callerA [] s H ⟨[.ref a], []⟩ [.ref a] [.ref a] _ _ room rfl e0 (bnd s (.ref a)) (.cons rfl .nil) (hsp H only sq)) ?_
    intro r s' h
    cases r with
    | error e => exact (hCn H e s' h).elim
    | ok fl =>
      cases fl with
      | ret u =>
        obtain ⟨v, H', os, bare, un, held', rv, (q : v = .bl true)⟩ := h
        subst q
        cases rv
        refine ⟨rfl, OldK.of_keep ?_, os, bare⟩
        intro b o e
        cases q : H b with
        | none => exact un.keep b o e q (by simp [frs]) (by simp)
        | some u =>
          rcases only b with z | ⟨ob, xs, z⟩
          · rw [q] at z; cases z
          · obtain ⟨e1, _⟩ := held b _ z
            obtain ⟨e2, _⟩ := held' b _ (un.frzs b ob _ z)
            rw [e] at e1
            cases e1
            exact e2
      | next => exact False.elim h
      | brk => exact False.elim h
      | cont => exact False.elim h
  cases hk : K.lookup a with
  | some o =>
    have e := inK a o hk
    rw [obj] at e
    cases e
    refine go (fun _ => none) (fun _ => .inl rfl) (.inr ⟨_, vs.toArray, _, hk, rfl, rfl, rfl, ?_, by simpa using rel⟩) (fun b u z => nomatch z) (fun b u z => nomatch z)
    rw [List.size_toArray, isn.length]
    exact small
  | none =>
    have at_a : hp0 a { cls := .type "list", data := .seq vs.toArray } (ns.map V.int) a = some (.frz { cls := .type "list", data := .seq vs.toArray } (.lst (ns.map V.int))) := if_pos rfl
    have only_a : ∀ b u, hp0 a { cls := .type "list", data := .seq vs.toArray } (ns.map V.int) b = some u → b = a := fun b u z => by
      by_cases hb : b = a
      · exact hb
      · have z2 : (none : Option HO) = some u := (if_neg hb).symm.trans z
        cases z2
    refine go (hp0 a { cls := .type "list", data := .seq vs.toArray } (ns.map V.int)) (fun b => ?_) (.inl (.inr ⟨_, at_a⟩)) (fun b u z => ?_) fun b u z => ⟨only_a b u z, hk⟩
    · by_cases hb : b = a
      · exact .inr ⟨_, _, if_pos hb⟩
      · exact .inl (if_neg hb)
    · have hb := only_a b u z
      subst hb
      rw [at_a] at z
      cases z
      exact ⟨obj, by rw [List.length_map]; exact small, vs, _, rel, obj⟩
/-- the goal behind the head -/
theorem walk_ofG {l : PySem.W.OpenLaw} {n k : Nat} {q : Program} {loose : List Str} {XP : (Str → Option Value) → Heap → Prop} {YP : World → Heap → Prop} {d : DefRec} {K : Params → PySem.W.Frag} {Cn : World → CXT} {sp : World → Sp} {x : Str}
    (hn : l.most = some n) (hn2 : n ≤ sizeLine) (hdf : d.params.defaults = []) (room : Room k callerA) (hY : ∀ (w : World) (h : Heap), YP w h → (K w.params).In h)
    (F : ∀ (w : World) (mg : Str → Option Value) (fa : Addr) (h : Heap), (K w.params).In h → h.Ns mainGlobals mg → mg d.name = some (.ref fa) →
      ∃ fd : FuncData, (∀ (s : Shared) (u : Value), BindsTo s fd ⟨[u], []⟩ [(x, u)]) ∧ ∀ base : Heap, (K w.params).In base → base.Ns mainGlobals mg → FnG l.prog w (K w.params) mg base (Cn w) k fa fd [x] (sp w))
    (hsp : ∀ (w : World) (H : Hp) (a : Addr) (ns : List Int), ns.length ≤ n → Only H → SqL (K w.params) H a (ns.map V.int) → sp w [.ref a] H (fun v _ => v = .bl true) fun _ _ _ => False)
    (hCn : ∀ (w : World) (H : Hp) (s : Shared) (e : Value) (s' : Shared), Cn w [] H s (fun _ _ _ => False) e s' → False) : PySem.W.WalkO q loose XP YP l.row.toRowW d [] (fun f vs => PySem.call f vs) := by
  refine Att.attach_call hn hdf ?_
  intro w s0 s1 mg mb fa o pm cd doc a vs ns G Y ho hd hcd hmg hobj hints hlen hg
  have inK := hY w _ Y
  obtain ⟨fd, bnd, hF⟩ := F w mg fa _ inK G.T.g hmg
  exact law_callG inK G.T.g G.T.b G.T.builtins G.T.nolimit hg hobj hints (Nat.le_trans hlen hn2) room hF bnd (fun H hO hS => hsp w H a ns hlen hO hS) fun H e s' => hCn w H s1 e s'
end PL
/-! PL1: plain values over the hand layer: what stands for what, the state, the judgement of expressions. -/
namespace PL
open PySem PySem.Spec PyProof.Rows L2
/-- a plain value: data that nobody changes; scr: a list that may be read alone (the script) -/
inductive PV where
  | non | bl (b : Bool) | int (i : Int) | str (x : Str)
  | tup (l : List PV) | lst (l : List PV) | scr (l : List PV)
  | ins (c : Str) (fs : List (Str × PV))
  | fnp
  | exi (c : Str) (v : PV)
  | dcv (ks : List Key) (vs : List PV)
/-- an object that is changed in place -/
inductive MO where
  | lst (l : List PV)
  | ins (c : Str) (fs : List (Str × PV))
  | dct (kvs : List (Key × PV))
  | lls (ls : List (List PV))
  | bag (g : List Int) (left turn blend : Int)
/-- what a slot holds: a plain value, an object that this slot alone knows, or the k-th object that was lent to the def -/
inductive SV where
  | val (v : PV) | own (m : MO) | bor (k : Nat)
structure Stt where
  ro : List (Option SV)
  mu : List MO
/-- fa: the function that a def got (PV.fnp); F0: plain things that stood at the entry -/
structure Fx where
  K : PySem.W.Frag
  cl : Str → Addr
  nb : Nat
  be : Nat → Addr
  Bf : Nat → List Addr
  fa : Addr := 0
  F0 : Hp := fun _ => none
/-- the defs that make lambdas; where their code objects' tables lie is told by cl -/
def tabNames : List Str := ["pair_at", "race_at", "least_harmful", "order_in"]
def tabKey (q : Str) : Str := "<" ++ q
/-- the tables: what they tell are code objects, which are plain things -/
def TabOk (cl : Str → Addr) (F H : Hp) : Prop := ∀ q ∈ tabNames, cl (tabKey q) ≠ 0 → F (cl (tabKey q)) = none ∧ ∃ ps : Array Value, H (cl (tabKey q)) = some (.tbl ps) ∧ TriplesOk ps.toList ∧
  ∀ (pos : Pos) (cv : Value), codeAmong pos ps.toList = some cv → ∃ c, cv = .ref c ∧ F c = some (LamX.CodeO c ((q ++ ".<locals>.") ++ "<lambda>"))
/-- a table, a code object, a function -/
def Tbx : HO → Prop
  | .tbl _ => True
  | .ext _ => True
  | _ => False
theorem Tbx.tbl {o : HO} (h : ¬ Tbx o) : ∀ ps, o ≠ .tbl ps := fun ps e => h (by rw [e]; trivial)
theorem TabOk.off {cl : Str → Addr} {F F' H H' : Hp} (t : TabOk cl F H) (sF : Same F F') (n : ∀ b ps, H b = some (.tbl ps) → F b = none → F' b = none) (e : ∀ b o, Tbx o → H b = some o → H' b = some o) : TabOk cl F' H' := fun q hq h => by
  obtain ⟨h0, ps, h1, h2, h3⟩ := t q hq h
  refine ⟨n _ _ h1 h0, ps, e _ _ trivial h1, h2, fun pos cv hc => ?_⟩
  obtain ⟨c, e1, e2⟩ := h3 pos cv hc
  exact ⟨c, e1, sF _ _ e2⟩
theorem TabOk.off0 {cl : Str → Addr} {F H H' : Hp} (t : TabOk cl F H) (e : ∀ b o, Tbx o → H b = some o → H' b = some o) : TabOk cl F H' := t.off (fun _ _ h => h) (fun _ _ _ h => h) e
theorem TabOk.ext0 {cl : Str → Addr} {F H H' : Hp} (t : TabOk cl F H) (e : ∀ b o, H b = some o → H' b = some o) : TabOk cl F H' := t.off0 fun b o _ => e b o
/-- an exception object of the class cls, its dict at d, raised or not, that nobody raises again -/
def ExV (cls : Value) (d a : Addr) : HO := .ext fun h => ∃ (oe : Obj) (vs : Array Value), h.get? a = some oe ∧ L2N.Zn cls (some d) oe ∧ oe.data = .fields vs
mutual
inductive Rp (C : Fx) (F : Hp) : V → PV → Prop
  | non : Rp C F .non .non
  | bl (b : Bool) : Rp C F (.bl b) (.bl b)
  | int (i : Int) : Rp C F (.int i) (.int i)
  | str (x : Str) : Rp C F (.str x) (.str x)
  | tup {a : Addr} {xs : List V} {l : List PV} : SqT C.K F a xs → Rps C F xs l → Rp C F (.ref a) (.tup l)
  | lst {a : Addr} {xs : List V} {l : List PV} : F a = some (.lst xs) → Rps C F xs l → Rp C F (.ref a) (.lst l)
  | scr {a : Addr} {xs : List V} {l : List PV} : SqL C.K F a xs → Rps C F xs l → Rp C F (.ref a) (.scr l)
  | ins {a : Addr} {c : Str} {dx : Addr} {fs : List (Str × V)} {l : List (Str × PV)} : F a = some (.ins (C.cl c) dx fs) → Rpf C F fs l → Rp C F (.ref a) (.ins c l)
  | fnp : Rp C F (.ref C.fa) .fnp
  | exi {a dx : Addr} {c : Str} {u : V} {p : PV} : F a = some (ExV (.ref (C.cl c)) dx a) → F dx = some (.xd [(("value" : Str), u)]) → Rp C F u p → Rp C F (.ref a) (.exi c p)
  | dcv {a : Addr} {o : Obj} {kv : List (Key × V)} {ks : List Key} {vs : List PV} : F a = some (.frz o (.dK kv)) → kv.map (·.1) = ks → Rps C F (kv.map (·.2)) vs → Rp C F (.ref a) (.dcv ks vs)
inductive Rps (C : Fx) (F : Hp) : List V → List PV → Prop
  | nil : Rps C F [] []
  | cons {v : V} {vs : List V} {p : PV} {ps : List PV} : Rp C F v p → Rps C F vs ps → Rps C F (v :: vs) (p :: ps)
inductive Rpf (C : Fx) (F : Hp) : List (Str × V) → List (Str × PV) → Prop
  | nil : Rpf C F [] []
  | cons {n : Str} {v : V} {vs : List (Str × V)} {p : PV} {ps : List (Str × PV)} : Rp C F v p → Rpf C F vs ps → Rpf C F ((n, v) :: vs) ((n, p) :: ps)
end
theorem sqT_mono {K : PySem.W.Frag} {H H' : Hp} {a : Addr} {xs : List V} (e : Same H H') (h : SqT K H a xs) : SqT K H' a xs := by
  rcases h with (h | ⟨o, h⟩) | h
  · exact .inl (.inl (e _ _ h))
  · exact .inl (.inr ⟨o, e _ _ h⟩)
  · exact .inr h
mutual
theorem Rp.mono {C : Fx} {F F' : Hp} (e : Same F F') : ∀ {v : V} {p : PV}, Rp C F v p → Rp C F' v p
  | _, _, .non => .non
  | _, _, .bl b => .bl b
  | _, _, .int i => .int i
  | _, _, .str x => .str x
  | _, _, .tup h r => .tup (sqT_mono e h) (Rps.mono e r)
  | _, _, .lst h r => .lst (e _ _ h) (Rps.mono e r)
  | _, _, .scr h r => .scr (e.seq h) (Rps.mono e r)
  | _, _, .ins h r => .ins (e _ _ h) (Rpf.mono e r)
  | _, _, .fnp => .fnp
  | _, _, .exi h k r => .exi (e _ _ h) (e _ _ k) (Rp.mono e r)
  | _, _, .dcv h k r => .dcv (e _ _ h) k (Rps.mono e r)
theorem Rps.mono {C : Fx} {F F' : Hp} (e : Same F F') : ∀ {v : List V} {p : List PV}, Rps C F v p → Rps C F' v p
  | _, _, .nil => .nil
  | _, _, .cons h r => .cons (Rp.mono e h) (Rps.mono e r)
theorem Rpf.mono {C : Fx} {F F' : Hp} (e : Same F F') : ∀ {v : List (Str × V)} {p : List (Str × PV)}, Rpf C F v p → Rpf C F' v p
  | _, _, .nil => .nil
  | _, _, .cons h r => .cons (Rp.mono e h) (Rpf.mono e r)
end
section
variable {C : Fx} {F : Hp}
theorem Rps.length : ∀ {vs : List V} {ps : List PV}, Rps C F vs ps → vs.length = ps.length
  | _, _, .nil => rfl
  | _, _, .cons _ r => by rw [List.length_cons, List.length_cons, Rps.length r]
theorem Rps.get : ∀ {vs : List V} {ps : List PV} {i : Nat} {p : PV}, Rps C F vs ps → ps[i]? = some p → ∃ v, vs[i]? = some v ∧ Rp C F v p
  | _, _, _, _, .nil, e => by simp at e
  | _, _, 0, _, .cons r _, e => by simp at e; subst e; exact ⟨_, rfl, r⟩
  | _, _, i + 1, _, .cons _ t, e => by
    obtain ⟨v, h1, h2⟩ := Rps.get (i := i) t (by simpa using e)
    exact ⟨v, by simpa using h1, h2⟩
theorem Rps.getV : ∀ {vs : List V} {ps : List PV} {i : Nat} {v : V}, Rps C F vs ps → vs[i]? = some v → ∃ p, ps[i]? = some p ∧ Rp C F v p
  | _, _, _, _, .nil, e => by simp at e
  | _, _, 0, _, .cons r _, e => by simp at e; subst e; exact ⟨_, rfl, r⟩
  | _, _, i + 1, _, .cons _ t, e => by
    obtain ⟨v, h1, h2⟩ := Rps.getV (i := i) t (by simpa using e)
    exact ⟨v, by simpa using h1, h2⟩
theorem Rps.append : ∀ {xs ys : List V} {ps qs : List PV}, Rps C F xs ps → Rps C F ys qs → Rps C F (xs ++ ys) (ps ++ qs)
  | _, _, _, _, .nil, s => s
  | _, _, _, _, .cons r t, s => .cons r (Rps.append t s)
theorem Rps.take : ∀ {xs : List V} {ps : List PV} (n : Nat), Rps C F xs ps → Rps C F (xs.take n) (ps.take n)
  | _, _, 0, _ => .nil
  | _, _, _ + 1, .nil => .nil
  | _, _, n + 1, .cons r t => .cons r (Rps.take n t)
theorem Rps.drop : ∀ {xs : List V} {ps : List PV} (n : Nat), Rps C F xs ps → Rps C F (xs.drop n) (ps.drop n)
  | _, _, 0, r => r
  | _, _, _ + 1, .nil => .nil
  | _, _, n + 1, .cons _ t => Rps.drop n t
theorem Rps.set {v : V} {p : PV} (r : Rp C F v p) : ∀ {xs : List V} {ps : List PV} (n : Nat), Rps C F xs ps → Rps C F (xs.set n v) (ps.set n p)
  | _, _, _, .nil => .nil
  | _, _, 0, .cons _ t => .cons r t
  | _, _, n + 1, .cons q t => .cons q (Rps.set r n t)
theorem Rps.reverse {xs : List V} {ps : List PV} (r : Rps C F xs ps) : Rps C F xs.reverse ps.reverse := by
  induction r using Rps.rec (motive_1 := fun _ _ _ => True) (motive_3 := fun _ _ _ => True) with
  | nil => exact .nil
  | cons h _ _ ih =>
    rw [List.reverse_cons, List.reverse_cons]
    exact Rps.append ih (.cons h .nil)
  | _ => trivial
theorem Rps.ints : ∀ {vs : List V} {ns : List Int}, Rps C F vs (ns.map PV.int) → vs = ns.map V.int
  | [], [], _ => rfl
  | _ :: _, n :: ns, .cons (.int _) r => by rw [List.map_cons, Rps.ints (ns := ns) r]
theorem Rps.of_ints : ∀ (ns : List Int), Rps C F (ns.map V.int) (ns.map PV.int)
  | [] => .nil
  | n :: ns => .cons (.int n) (Rps.of_ints ns)
end
/-- lists that are changed, one behind the other -/
def Lls (C : Fx) (F H : Hp) : List Addr → List (List PV) → Prop
  | [], [] => True
  | a :: as, l :: ls => (∃ xs, H a = some (.lst xs) ∧ Rps C F xs l) ∧ Lls C F H as ls
  | _, _ => False
theorem Lls.keep {C : Fx} {F F' H H' : Hp} (e : Same F F') : ∀ {as : List Addr} {ls : List (List PV)}, Lls C F H as ls → (∀ b o, b ∈ as → H b = some o → H' b = some o) → Lls C F' H' as ls
  | [], [], _, _ => trivial
  | a :: as, l :: ls, ⟨⟨xs, h1, h2⟩, h⟩, k => ⟨⟨xs, k a _ List.mem_cons_self h1, h2.mono e⟩, Lls.keep e h fun b o hb => k b o (List.mem_cons_of_mem _ hb)⟩
  | [], _ :: _, h, _ => h.elim
  | _ :: _, [], h, _ => h.elim
theorem Lls.keepT {C : Fx} {F F' H H' : Hp} (e : Same F F') : ∀ {as : List Addr} {ls : List (List PV)}, Lls C F H as ls → (∀ b o, b ∈ as → ¬ Tbx o → H b = some o → H' b = some o) → Lls C F' H' as ls
  | [], [], _, _ => trivial
  | a :: as, l :: ls, ⟨⟨xs, h1, h2⟩, h⟩, k => ⟨⟨xs, k a _ List.mem_cons_self (fun z => z) h1, h2.mono e⟩, Lls.keepT e h fun b o hb => k b o (List.mem_cons_of_mem _ hb)⟩
  | [], _ :: _, h, _ => h.elim
  | _ :: _, [], h, _ => h.elim
theorem Lls.there {C : Fx} {F H : Hp} : ∀ {as : List Addr} {ls : List (List PV)}, Lls C F H as ls → ∀ b, b ∈ as → H b ≠ none
  | [], [], _, _, hb => by cases hb
  | a :: as, l :: ls, ⟨⟨xs, h1, h2⟩, h⟩, b, hb => by
    rcases List.mem_cons.mp hb with e | hb
    · subst e; rw [h1]; simp
    · exact Lls.there h b hb
  | [], _ :: _, h, _, _ => h.elim
  | _ :: _, [], h, _, _ => h.elim
/-- where a changeable object stands: p its address, fp all addresses that belong to it -/
def MAt (C : Fx) (F H : Hp) (p : Addr) (fp : List Addr) : MO → Prop
  | .lst l => fp = [p] ∧ ∃ xs, H p = some (.lst xs) ∧ Rps C F xs l
  | .ins c l => fp = [p] ∧ ∃ dx fs, H p = some (.ins (C.cl c) dx fs) ∧ Rpf C F fs l
  | .dct kvs => fp = [p] ∧ ∃ ks : List (Key × V), H p = some (.dK ks) ∧ ks.map (·.1) = kvs.map (·.1) ∧ Rps C F (ks.map (·.2)) (kvs.map (·.2))
  | .lls ls => ∃ as, fp = p :: as ∧ p ∉ as ∧ as.Nodup ∧ H p = some (.lst (as.map V.ref)) ∧ Lls C F H as ls
  | .bag g l t b => ∃ q, fp = [p, q] ∧ p ≠ q ∧ H p = some (.dK [(.inr "great", .ref q), (.inr "left", .int l), (.inr "turn", .int t), (.inr "blend", .int b)]) ∧ H q = some (.lst (g.map V.int))
theorem MAt.mem {C : Fx} {F H : Hp} {p : Addr} {fp : List Addr} {m : MO} (h : MAt C F H p fp m) : p ∈ fp := by
  cases m with
  | lst l => rw [h.1]; exact List.mem_cons_self
  | ins c l => rw [h.1]; exact List.mem_cons_self
  | dct l => rw [h.1]; exact List.mem_cons_self
  | lls l => obtain ⟨q, e, _⟩ := h; rw [e]; exact List.mem_cons_self
  | bag g l t b => obtain ⟨q, e, _⟩ := h; rw [e]; exact List.mem_cons_self
/-- the plain part may grow, the object's own part must stay -/
theorem MAt.keep {C : Fx} {F F' H H' : Hp} {p : Addr} {fp : List Addr} {m : MO} (h : MAt C F H p fp m) (e : Same F F') (k : ∀ b o, b ∈ fp → H b = some o → H' b = some o) : MAt C F' H' p fp m := by
  cases m with
  | lst l =>
    obtain ⟨rfl, xs, h1, h2⟩ := h
    exact ⟨rfl, xs, k _ _ List.mem_cons_self h1, h2.mono e⟩
  | ins c l =>
    obtain ⟨rfl, dx, fs, h1, h2⟩ := h
    exact ⟨rfl, dx, fs, k _ _ List.mem_cons_self h1, h2.mono e⟩
  | dct l =>
    obtain ⟨rfl, ks, h1, h2, h3⟩ := h
    exact ⟨rfl, ks, k _ _ List.mem_cons_self h1, h2, h3.mono e⟩
  | lls l =>
    obtain ⟨as, rfl, n, nd, h1, h2⟩ := h
    exact ⟨as, rfl, n, nd, k _ _ List.mem_cons_self h1, h2.keep e fun b o hb => k b o (List.mem_cons_of_mem _ hb)⟩
  | bag g l t b =>
    obtain ⟨q, rfl, n, h1, h2⟩ := h
    exact ⟨q, rfl, n, k _ _ List.mem_cons_self h1, k _ _ (List.mem_cons_of_mem _ List.mem_cons_self) h2⟩
/-- the plain part may grow, the object's own part must stay -/
theorem MAt.keepT {C : Fx} {F F' H H' : Hp} {p : Addr} {fp : List Addr} {m : MO} (h : MAt C F H p fp m) (e : Same F F') (k : ∀ b o, b ∈ fp → ¬ Tbx o → H b = some o → H' b = some o) : MAt C F' H' p fp m := by
  cases m with
  | lst l =>
    obtain ⟨rfl, xs, h1, h2⟩ := h
    exact ⟨rfl, xs, k _ _ List.mem_cons_self (fun z => z) h1, h2.mono e⟩
  | ins c l =>
    obtain ⟨rfl, dx, fs, h1, h2⟩ := h
    exact ⟨rfl, dx, fs, k _ _ List.mem_cons_self (fun z => z) h1, h2.mono e⟩
  | dct l =>
    obtain ⟨rfl, ks, h1, h2, h3⟩ := h
    exact ⟨rfl, ks, k _ _ List.mem_cons_self (fun z => z) h1, h2, h3.mono e⟩
  | lls l =>
    obtain ⟨as, rfl, n, nd, h1, h2⟩ := h
    exact ⟨as, rfl, n, nd, k _ _ List.mem_cons_self (fun z => z) h1, h2.keepT e fun b o hb => k b o (List.mem_cons_of_mem _ hb)⟩
  | bag g l t b =>
    obtain ⟨q, rfl, n, h1, h2⟩ := h
    exact ⟨q, rfl, n, k _ _ List.mem_cons_self (fun z => z) h1, k _ _ (List.mem_cons_of_mem _ List.mem_cons_self) (fun z => z) h2⟩
/-- none of its objects is a table or code -/
theorem MAt.nte {C : Fx} {F H : Hp} {p : Addr} {fp : List Addr} {m : MO} (h : MAt C F H p fp m) : ∀ b o, b ∈ fp → H b = some o → ¬ Tbx o := by
  have lls : ∀ {as : List Addr} {ls : List (List PV)}, Lls C F H as ls → ∀ b o, b ∈ as → H b = some o → ¬ Tbx o := by
    intro as
    induction as with
    | nil => intro ls _ b o hb; cases hb
    | cons a as ih =>
      intro ls hl b o hb e
      cases ls with
      | nil => exact hl.elim
      | cons l ls =>
        obtain ⟨⟨xs, h1, _⟩, h2⟩ := hl
        rcases List.mem_cons.mp hb with z | hb
        · rw [z, h1] at e; cases e; exact fun z => z
        · exact ih h2 b o hb e
  intro b o hb e
  cases m with
  | lst l =>
    obtain ⟨rfl, xs, h1, h2⟩ := h
    rw [List.mem_singleton] at hb
    rw [hb, h1] at e; cases e; exact fun z => z
  | ins c l =>
    obtain ⟨rfl, dx, fs, h1, h2⟩ := h
    rw [List.mem_singleton] at hb
    rw [hb, h1] at e; cases e; exact fun z => z
  | dct l =>
    obtain ⟨rfl, ks, h1, h2, h3⟩ := h
    rw [List.mem_singleton] at hb
    rw [hb, h1] at e; cases e; exact fun z => z
  | lls l =>
    obtain ⟨as, rfl, n, nd, h1, h2⟩ := h
    rcases List.mem_cons.mp hb with z | hb
    · rw [z, h1] at e; cases e; exact fun z => z
    · exact lls h2 b o hb e
  | bag g l t bb =>
    obtain ⟨q, rfl, n, h1, h2⟩ := h
    rcases List.mem_cons.mp hb with z | hb
    · rw [z, h1] at e; cases e; exact fun z => z
    · rw [List.mem_singleton] at hb
      rw [hb, h2] at e; cases e; exact fun z => z
theorem MAt.there {C : Fx} {F H : Hp} {p : Addr} {fp : List Addr} {m : MO} (h : MAt C F H p fp m) : ∀ b, b ∈ fp → H b ≠ none := by
  intro b hb
  cases m with
  | lst l =>
    obtain ⟨rfl, xs, h1, h2⟩ := h
    rw [List.mem_singleton] at hb
    subst hb; rw [h1]; simp
  | ins c l =>
    obtain ⟨rfl, dx, fs, h1, h2⟩ := h
    rw [List.mem_singleton] at hb
    subst hb; rw [h1]; simp
  | dct l =>
    obtain ⟨rfl, ks, h1, h2, h3⟩ := h
    rw [List.mem_singleton] at hb
    subst hb; rw [h1]; simp
  | lls l =>
    obtain ⟨as, rfl, n, nd, h1, h2⟩ := h
    rcases List.mem_cons.mp hb with e | hb
    · subst e; rw [h1]; simp
    · exact h2.there b hb
  | bag g l t bb =>
    obtain ⟨q, rfl, n, h1, h2⟩ := h
    rcases List.mem_cons.mp hb with e | hb
    · subst e; rw [h1]; simp
    · rw [List.mem_singleton] at hb
      subst hb; rw [h2]; simp
/-- the state is held: F the plain part of the heap, A what the slots own -/
structure OkF (C : Fx) (F : Hp) (A : Nat → List Addr) (H : Hp) (σ : L2.St) (s : Stt) : Prop where
  len : σ.length = s.ro.length
  sub : Same F H
  val : ∀ (i : Nat) (v : PV), s.ro[i]? = some (some (SV.val v)) → ∃ u, σ[i]? = some (some u) ∧ Rp C F u v
  own : ∀ (i : Nat) (m : MO), s.ro[i]? = some (some (SV.own m)) → ∃ p, σ[i]? = some (some (.ref p)) ∧ MAt C F H p (A i) m
  nb : s.mu.length = C.nb
  lent : ∀ (i k : Nat), s.ro[i]? = some (some (SV.bor k)) → σ[i]? = some (some (V.ref (C.be k))) ∧ k < C.nb
  bor : ∀ (k : Nat) (m : MO), s.mu[k]? = some m → MAt C F H (C.be k) (C.Bf k) m
  free : ∀ i b, b ∈ A i → F b = none ∧ H b ≠ none
  dis : ∀ i j b, b ∈ A i → b ∈ A j → i = j
  freeB : ∀ k b, k < C.nb → b ∈ C.Bf k → F b = none ∧ ∀ i, b ∉ A i
  disB : ∀ k j b, k < C.nb → j < C.nb → b ∈ C.Bf k → b ∈ C.Bf j → k = j
  ext : Same C.F0 F ∧ TabOk C.cl F H
def OwnA (A : Nat → List Addr) (b : Addr) : Prop := ∃ i, b ∈ A i
def Bor (C : Fx) (b : Addr) : Prop := ∃ k, k < C.nb ∧ b ∈ C.Bf k
/-- what a piece of code may have done -/
structure Step (C : Fx) (F : Hp) (A : Nat → List Addr) (H F' : Hp) (A' : Nat → List Addr) (H' : Hp) : Prop where
  s1 : Same F F'
  s2 : ∀ b, F' b ≠ none → F b ≠ none ∨ H b = none ∨ OwnA A b
  s3 : ∀ b, OwnA A' b → OwnA A b ∨ H b = none
  s4 : ∀ b o, H b = some o → (∀ ps, o ≠ .tbl ps) → ¬ OwnA A b → ¬ Bor C b → H' b = some o
  s5 : ∀ b, H b ≠ none → H' b ≠ none
theorem Step.refl {C : Fx} {F H : Hp} {A : Nat → List Addr} : Step C F A H F A H :=
  ⟨fun _ _ h => h, fun _ h => .inl h, fun _ h => .inl h, fun _ _ h _ _ _ => h, fun _ h => h⟩
theorem Step.trans {C : Fx} {F F1 F2 H H1 H2 : Hp} {A A1 A2 : Nat → List Addr} (a : Step C F A H F1 A1 H1) (b : Step C F1 A1 H1 F2 A2 H2) : Step C F A H F2 A2 H2 where
  s1 := a.s1.trans b.s1
  s2 := fun c h => by
    rcases b.s2 c h with q | q | q
    · exact a.s2 c q
    · refine .inr (.inl ?_)
      cases e : H c with
      | none => rfl
      | some o => exact absurd q (a.s5 c (by rw [e]; simp))
    · exact .inr ((a.s3 c q).symm)
  s3 := fun c h => by
    rcases b.s3 c h with q | q
    · exact a.s3 c q
    · refine .inr ?_
      cases e : H c with
      | none => rfl
      | some o => exact absurd q (a.s5 c (by rw [e]; simp))
  s4 := fun c o h nt n m => by
    refine b.s4 c o (a.s4 c o h nt n m) nt (fun q => ?_) m
    rcases a.s3 c q with z | z
    · exact n z
    · rw [h] at z; cases z
  s5 := fun c h => b.s5 c (a.s5 c h)
/-- what an expression comes to -/
inductive Res (α : Type) where
  | ok (a : α) (s : Stt) | ex (c : Str) (v : PV) (s : Stt) | stuck
def Res.bind {α β : Type} : Res α → (α → Stt → Res β) → Res β
  | .ok a s, f => f a s
  | .ex c v s, _ => .ex c v s
  | .stuck, _ => .stuck
@[simp] theorem Res.bind_ok {α β : Type} (a : α) (s : Stt) (f : α → Stt → Res β) : (Res.ok a s).bind f = f a s := rfl
@[simp] theorem Res.bind_ex {α β : Type} (c : Str) (v : PV) (s : Stt) (f : α → Stt → Res β) : (Res.ex c v s : Res α).bind f = .ex c v s := rfl
@[simp] theorem Res.bind_stuck {α β : Type} (f : α → Stt → Res β) : (Res.stuck : Res α).bind f = .stuck := rfl
def Res.opt {α : Type} (s : Stt) : Option α → Res α
  | some a => .ok a s
  | none => .stuck
@[simp] theorem Res.opt_some {α : Type} (a : α) (s : Stt) : Res.opt s (some a) = .ok a s := rfl
@[simp] theorem Res.opt_none {α : Type} (s : Stt) : Res.opt s (none : Option α) = .stuck := rfl
/-- an exception of a class of the program: its dict holds the value -/
def XAt (C : Fx) (F H : Hp) (d : Addr) (v : PV) : Prop := ∃ u, F d = some (.xd [(("value" : Str), u)]) ∧ Rp C F u v
def Post {α β : Type} (C : Fx) (W : WX) (R : Hp → Hp → β → α → Prop) (F : Hp) (A : Nat → List Addr) (H : Hp) (σ : L2.St) (r : Res α) (Q : β → Hp → Prop) : Prop :=
  match r with
  | .ok a s => ∀ v F' A' H', OkF C F' A' H' σ s → Step C F A H F' A' H' → R F' H' v a → Q v H'
  | .ex c p s => ∀ d F' A' H', OkF C F' A' H' σ s → Step C F A H F' A' H' → XAt C F' H' d p → W (.ref (C.cl c)) (some d) σ H'
  | .stuck => False
theorem Post.after {α β : Type} {C : Fx} {W : WX} {R : Hp → Hp → β → α → Prop} {F F1 H H1 : Hp} {A A1 : Nat → List Addr} {σ : L2.St} {r : Res α} {Q : β → Hp → Prop} (st : Step C F A H F1 A1 H1) (p : Post C W R F A H σ r Q) : Post C W R F1 A1 H1 σ r Q := by
  cases r with
  | ok a s => exact fun v F' A' H' o t q => p v F' A' H' o (st.trans t) q
  | ex c v s => exact fun d F' A' H' o t q => p d F' A' H' o (st.trans t) q
  | stuck => exact p
/-- the first part, then the rest -/
theorem Post.seq {α β γ δ : Type} {C : Fx} {W : WX} {R : Hp → Hp → β → α → Prop} {R2 : Hp → Hp → δ → γ → Prop} {F H : Hp} {A : Nat → List Addr} {σ : L2.St} {r : Res α} {f : α → Stt → Res γ} {Q : δ → Hp → Prop} {Q1 : β → Hp → Prop}
    (p : Post C W R2 F A H σ (r.bind f) Q)
    (k : ∀ a s v F' A' H', r = .ok a s → OkF C F' A' H' σ s → Step C F A H F' A' H' → R F' H' v a → Post C W R2 F' A' H' σ (f a s) Q → Q1 v H') : Post C W R F A H σ r Q1 := by
  cases r with
  | ok a s => exact fun v F' A' H' o t q => k a s v F' A' H' rfl o t q (p.after t)
  | ex c v s => exact p
  | stuck => exact p
abbrev RV (C : Fx) : Hp → Hp → V → PV → Prop := fun F _ v p => Rp C F v p
abbrev RVs (C : Fx) : Hp → Hp → List V → List PV → Prop := fun F _ v p => Rps C F v p
abbrev RB : Hp → Hp → Bool → Bool → Prop := fun _ _ b c => b = c
/-- e has the plain value f, and does to the state what f does -/
structure DV (X : Cx) (C : Fx) (W : WX) (e : Expr) (f : Stt → Res PV) : Prop where
  pr : ∃ te, PE X e te ∧ ∀ F A H σ s Q, OkF C F A H σ s → Post C W (RV C) F A H σ (f s) Q → te σ H Q
structure DA (X : Cx) (C : Fx) (W : WX) (es : List Expr) (f : Stt → Res (List PV)) : Prop where
  pr : ∃ te, PA X es te ∧ ∀ F A H σ s Q, OkF C F A H σ s → Post C W (RVs C) F A H σ (f s) Q → te σ H Q
structure DT (X : Cx) (C : Fx) (W : WX) (e : Expr) (f : Stt → Res Bool) : Prop where
  pr : ∃ te, PT X e te ∧ ∀ F A H σ s Q, OkF C F A H σ s → Post C W RB F A H σ (f s) Q → te σ H Q
/-- nothing was changed -/
theorem Post.now {α β : Type} {C : Fx} {W : WX} {R : Hp → Hp → β → α → Prop} {F H : Hp} {A : Nat → List Addr} {σ : L2.St} {s : Stt} {a : α} {v : β} {Q : β → Hp → Prop} (o : OkF C F A H σ s) (p : Post C W R F A H σ (.ok a s) Q) (r : R F H v a) : Q v H :=
  p v F A H o .refl r
/-- a new plain object -/
theorem OkF.alloc {C : Fx} {F H : Hp} {A : Nat → List Addr} {σ : L2.St} {s : Stt} {p : Addr} {o : HO} (k : OkF C F A H σ s) (hp : H p = none) : OkF C (upd F p o) A (upd H p o) σ s ∧ Step C F A H (upd F p o) A (upd H p o) := by
  have hF : F p = none := k.sub.free hp
  have sF : Same F (upd F p o) := fun b u e => by rw [upd_ne (ne_of_none e hF)]; exact e
  have sH : Same H (upd H p o) := fun b u e => by rw [upd_ne (ne_of_none e hp)]; exact e
  have nA : ∀ i, p ∉ A i := fun i z => (k.free i p z).2 hp
  have nB : ∀ q, q < C.nb → p ∉ C.Bf q := fun q hq z => by
    have hm : q < s.mu.length := by rw [k.nb]; exact hq
    exact (k.bor q s.mu[q] (List.getElem?_eq_getElem hm)).there p z hp
  refine ⟨⟨k.len, fun b u e => ?_, fun i v e => ?_, fun i m e => ?_, k.nb, k.lent, fun q m e => ?_, fun i b hb => ?_, k.dis, fun q b hq hb => ?_, k.disB, ⟨k.ext.1.trans sF, k.ext.2.off sF (fun b ps e h => by rw [upd_ne (ne_of_none e hp)]; exact h) fun b o _ => sH b o⟩⟩, ⟨sF, fun b hb => ?_, fun b hb => .inl hb, fun b u e _ _ _ => sH b u e, fun b hb => ?_⟩⟩
  · by_cases hb : b = p
    · subst hb; rw [upd_same] at e ⊢; exact e
    · rw [upd_ne hb] at e ⊢; exact k.sub b u e
  · obtain ⟨u, h1, h2⟩ := k.val i v e
    exact ⟨u, h1, h2.mono sF⟩
  · obtain ⟨u, h1, h2⟩ := k.own i m e
    exact ⟨u, h1, h2.keep sF fun b o _ => sH b o⟩
  · exact (k.bor q m e).keep sF fun b o _ => sH b o
  · obtain ⟨h1, h2⟩ := k.free i b hb
    have hne : b ≠ p := fun z => nA i (z ▸ hb)
    exact ⟨by rw [upd_ne hne]; exact h1, by rw [upd_ne hne]; exact h2⟩
  · obtain ⟨h1, h2⟩ := k.freeB q b hq hb
    have hne : b ≠ p := fun z => nB q hq (z ▸ hb)
    exact ⟨by rw [upd_ne hne]; exact h1, h2⟩
  · by_cases hbp : b = p
    · subst hbp; exact .inr (.inl hp)
    · rw [upd_ne hbp] at hb; exact .inl hb
  · by_cases hbp : b = p
    · subst hbp; rw [upd_same]; simp
    · rw [upd_ne hbp]; exact hb
/-- an operator by plain values -/
def OpD (C : Fx) (r : R2) (op : PV → PV → Option PV) : Prop :=
  ∀ F A H σ s x y p q z (Q : VK), OkF C F A H σ s → Rp C F x p → Rp C F y q → op p q = some z →
    (∀ v F' A' H', OkF C F' A' H' σ s → Step C F A H F' A' H' → Rp C F' v z → Q v H') → r x y H Q
def UnD (C : Fx) (r : V → Hp → VK → Prop) (op : PV → Option PV) : Prop :=
  ∀ F A H σ s x p z (Q : VK), OkF C F A H σ s → Rp C F x p → op p = some z →
    (∀ v F' A' H', OkF C F' A' H' σ s → Step C F A H F' A' H' → Rp C F' v z → Q v H') → r x H Q
def CallD (C : Fx) (r : List V → Hp → VK → Prop) (op : List PV → Option PV) : Prop :=
  ∀ F A H σ s x p z (Q : VK), OkF C F A H σ s → Rps C F x p → op p = some z →
    (∀ v F' A' H', OkF C F' A' H' σ s → Step C F A H F' A' H' → Rp C F' v z → Q v H') → r x H Q
theorem Post.opt {α β : Type} {C : Fx} {W : WX} {R : Hp → Hp → β → α → Prop} {F H : Hp} {A : Nat → List Addr} {σ : L2.St} {s : Stt} {a : Option α} {Q : β → Hp → Prop} (p : Post C W R F A H σ (Res.opt s a) Q) :
    ∃ z, a = some z ∧ ∀ v F' A' H', OkF C F' A' H' σ s → Step C F A H F' A' H' → R F' H' v z → Q v H' := by
  cases a with
  | none => exact False.elim p
  | some z => exact ⟨z, rfl, p⟩
def eBin (op : PV → PV → Option PV) (fa fb : Stt → Res PV) : Stt → Res PV := fun s => (fa s).bind fun p s1 => (fb s1).bind fun q s2 => Res.opt s2 (op p q)
def eUn (op : PV → Option PV) (fa : Stt → Res PV) : Stt → Res PV := fun s => (fa s).bind fun p s1 => Res.opt s1 (op p)
def eC (p : PV) : Stt → Res PV := fun s => .ok p s
def aNil : Stt → Res (List PV) := fun s => .ok [] s
def aCons (fa : Stt → Res PV) (fb : Stt → Res (List PV)) : Stt → Res (List PV) := fun s => (fa s).bind fun p s1 => (fb s1).bind fun q s2 => .ok (p :: q) s2
def eCallB (op : List PV → Option PV) (fa : Stt → Res (List PV)) : Stt → Res PV := fun s => (fa s).bind fun p s1 => Res.opt s1 (op p)
def eVar (i : Nat) : Stt → Res PV := fun s => match s.ro[i]? with
  | some (some (.val v)) => .ok v s
  | _ => .stuck
section
variable {X : Cx} {C : Fx} {W : WX} {a b : Expr} {pos : Pos} {fa fb : Stt → Res PV}
theorem opPost {r : R2} {op : PV → PV → Option PV} {ta tb : TE} (h : OpD C r op)
    (ha : ∀ F A H σ s Q, OkF C F A H σ s → Post C W (RV C) F A H σ (fa s) Q → ta σ H Q) (hb : ∀ F A H σ s Q, OkF C F A H σ s → Post C W (RV C) F A H σ (fb s) Q → tb σ H Q) :
    ∀ F A H σ s Q, OkF C F A H σ s → Post C W (RV C) F A H σ (eBin op fa fb s) Q → tOp r ta tb σ H Q := by
  intro F A H σ s Q o p
  refine ha F A H σ s _ o (p.seq fun q1 s1 v1 F1 A1 H1 _ o1 st1 r1 p1 => ?_)
  refine hb F1 A1 H1 σ s1 _ o1 (p1.seq fun q2 s2 v2 F2 A2 H2 _ o2 st2 r2 p2 => ?_)
  obtain ⟨z, e, k⟩ := Post.opt p2
  exact h F2 A2 H2 σ s2 v1 v2 q1 q2 z Q o2 (r1.mono st2.s1) r2 e k
theorem dv_op {op : Operator} {r : R2} {f : PV → PV → Option PV} (ho : OpR X (binaryOp op) r) (h : OpD C r f) (ha : DV X C W a fa) (hb : DV X C W b fb) : DV X C W (.BinOp a op b pos) (eBin f fa fb) := by
  obtain ⟨ta, pa, qa⟩ := ha.pr
  obtain ⟨tb, pb, qb⟩ := hb.pr
  exact ⟨_, pe_op ho pa pb, opPost h qa qb⟩
theorem dv_cmp {op : CmpOp} {r : R2} {f : PV → PV → Option PV} (ho : OpR X (compareOp op) r) (h : OpD C r f) (ha : DV X C W a fa) (hb : DV X C W b fb) (hm : behindInMarks op b = false) : DV X C W (.Compare a [op] [b] pos) (eBin f fa fb) := by
  obtain ⟨ta, pa, qa⟩ := ha.pr
  obtain ⟨tb, pb, qb⟩ := hb.pr
  exact ⟨_, pe_cmpR ho pa pb hm, opPost h qa qb⟩
theorem dv_un {op : UnaryOp} {r : V → Hp → VK → Prop} {f : PV → Option PV} (ho : UnR X (unaryOp op) r) (h : UnD C r f) (ha : DV X C W a fa) : DV X C W (.UnaryOp op a pos) (eUn f fa) := by
  obtain ⟨ta, pa, qa⟩ := ha.pr
  refine ⟨_, pe_un ho pa, fun F A H σ s Q o p => ?_⟩
  refine qa F A H σ s _ o (p.seq fun q1 s1 v1 F1 A1 H1 _ o1 st1 r1 p1 => ?_)
  obtain ⟨z, e, k⟩ := Post.opt p1
  exact h F1 A1 H1 σ s1 v1 q1 z Q o1 r1 e k
theorem dv_const {e : Expr} {v : V} {p : PV} (h : PE X e (tC v)) (hr : ∀ F, Rp C F v p) : DV X C W e (eC p) :=
  ⟨_, h, fun F A H σ s Q o q => Post.now o q (hr F)⟩
theorem dv_int {i : Int} {j} : DV X C W (.Constant (.int i) j pos) (eC (.int i)) := dv_const pe_int fun _ => .int i
theorem dv_bl {b : Bool} {j} : DV X C W (.Constant (.bool b) j pos) (eC (.bl b)) := dv_const pe_bl fun _ => .bl b
theorem dv_non {j} : DV X C W (.Constant .none j pos) (eC .non) := dv_const pe_non fun _ => .non
theorem dv_str {x : Str} {j} : DV X C W (.Constant (.str x) j pos) (eC (.str x)) := dv_const pe_str fun _ => .str x
theorem dv_var (i : Nat) {x : Str} (hN : X.N[i]? = some x := by rfl) (hv : Vis X.env.scope x := by first | exact Or.inl rfl | exact Or.inr (Or.inl rfl) | exact Or.inr (Or.inr rfl)) (hd : (x == ("__debug__" : Str)) = false := by decide)
    (hcd : (x == ("__classdict__" : Str)) = false := by decide) : DV X C W (.Name x pos) (eVar i) := by
  refine ⟨_, pe_var hN hv hd hcd, fun F A H σ s Q o p => ?_⟩
  unfold eVar at p
  cases e : s.ro[i]? with
  | none => rw [e] at p; exact False.elim p
  | some z =>
    cases z with
    | none => rw [e] at p; exact False.elim p
    | some w =>
      cases w with
      | own m => rw [e] at p; exact False.elim p
      | bor m => rw [e] at p; exact False.elim p
      | val v =>
        rw [e] at p
        obtain ⟨u, h1, h2⟩ := o.val i v e
        exact ⟨u, h1, Post.now o p h2⟩
theorem da_nil : DA X C W [] aNil := ⟨_, pa_nil, fun F A H σ s Q o p => Post.now o p .nil⟩
theorem da_cons {es : List Expr} {fs : Stt → Res (List PV)} (ha : DV X C W a fa) (hs : DA X C W es fs) (he : starEach (a :: es) X.env = (false, eval a X.env) :: starEach es X.env := by rfl) : DA X C W (a :: es) (aCons fa fs) := by
  obtain ⟨ta, pa, qa⟩ := ha.pr
  obtain ⟨tb, pb, qb⟩ := hs.pr
  refine ⟨_, pa_cons pa pb he, fun F A H σ s Q o p => ?_⟩
  refine qa F A H σ s _ o (p.seq fun q1 s1 v1 F1 A1 H1 _ o1 st1 r1 p1 => ?_)
  refine qb F1 A1 H1 σ s1 _ o1 (p1.seq fun q2 s2 v2 F2 A2 H2 _ o2 st2 r2 p2 => ?_)
  exact Post.now o2 p2 (.cons (r1.mono st2.s1) r2)
theorem dv_callB {x : Str} {p : Pos} {es : List Expr} {id : String} {fs : Stt → Res (List PV)} {r : List V → Hp → VK → Prop} {f : List PV → Option PV} (hc : CallR X (.builtin id) r) (h : CallD C r f) (hg : Gl X x) (hm : X.mg x = none) (hv : bootBuiltins x = some (.builtin id)) (ha : DA X C W (a :: es) fs)
    (hn : x ≠ "__name__" := by decide) (hdb : (x == ("__debug__" : Str)) = false := by decide) (he : starEach (a :: es) X.env = (false, eval a X.env) :: starEach es X.env := by rfl) (hpl : (backTo pos (starEach es X.env)).any (·.1) = false := by rfl) :
    DV X C W (.Call (.Name x p) (a :: es) [] pos) (eCallB f fs) := by
  obtain ⟨ta, pa, qa⟩ := ha.pr
  refine ⟨_, pe_callB hc hg hm hv pa hn hdb he hpl, fun F A H σ s Q o p => ?_⟩
  refine qa F A H σ s _ o (p.seq fun q1 s1 v1 F1 A1 H1 _ o1 st1 r1 p1 => ?_)
  obtain ⟨z, e, k⟩ := Post.opt p1
  exact h F1 A1 H1 σ s1 v1 q1 z Q o1 r1 e k
end
end PL
/-! PL2: statements, targets, loops, a def's promise, its call. -/
namespace PL
open PySem PySem.Spec PyProof.Rows L2
/-- how a statement ends -/
inductive Fl where
  | nx (s : Stt) | rt (v : PV) (s : Stt) | rto (m : MO) (s : Stt) | bk (s : Stt) | ct (s : Stt) | ex (c : Str) (v : PV) (s : Stt) | stuck
/-- a fresh object that nobody else knows, at p -/
def Fresh (C : Fx) (F : Hp) (A : Nat → List Addr) (H F' : Hp) (A' : Nat → List Addr) (H' : Hp) (p : Addr) (m : MO) : Prop :=
  ∃ fp, MAt C F' H' p fp m ∧ ∀ b, b ∈ fp → F' b = none ∧ ¬ OwnA A' b ∧ ¬ Bor C b ∧ (H b = none ∨ OwnA A b)
def PostS (C : Fx) (W : WX) (F : Hp) (A : Nat → List Addr) (H : Hp) (D : Ends) : Fl → Prop
  | .nx s => ∀ σ F' A' H', OkF C F' A' H' σ s → Step C F A H F' A' H' → D.nx σ H'
  | .bk s => ∀ σ F' A' H', OkF C F' A' H' σ s → Step C F A H F' A' H' → D.bk σ H'
  | .ct s => ∀ σ F' A' H', OkF C F' A' H' σ s → Step C F A H F' A' H' → D.ct σ H'
  | .rt v s => ∀ u σ F' A' H', OkF C F' A' H' σ s → Step C F A H F' A' H' → Rp C F' u v → D.rt u H'
  | .rto m s => ∀ p σ F' A' H', OkF C F' A' H' σ s → Step C F A H F' A' H' → Fresh C F A H F' A' H' p m → D.rt (.ref p) H'
  | .ex c v s => ∀ d σ F' A' H', OkF C F' A' H' σ s → Step C F A H F' A' H' → XAt C F' H' d v → W (.ref (C.cl c)) (some d) σ H'
  | .stuck => False
theorem Fresh.after {C : Fx} {F F1 F' H H1 H' : Hp} {A A1 A' : Nat → List Addr} {p : Addr} {m : MO} (st : Step C F A H F1 A1 H1) (f : Fresh C F1 A1 H1 F' A' H' p m) : Fresh C F A H F' A' H' p m := by
  obtain ⟨fp, h, k⟩ := f
  refine ⟨fp, h, fun b hb => ?_⟩
  obtain ⟨k1, k2, k3, k4⟩ := k b hb
  refine ⟨k1, k2, k3, ?_⟩
  rcases k4 with q | q
  · left
    cases e : H b with
    | none => rfl
    | some o => exact absurd q (st.s5 b (by rw [e]; simp))
  · exact (st.s3 b q).symm
theorem PostS.after {C : Fx} {W : WX} {F F1 H H1 : Hp} {A A1 : Nat → List Addr} {D : Ends} {r : Fl} (st : Step C F A H F1 A1 H1) (p : PostS C W F A H D r) : PostS C W F1 A1 H1 D r := by
  cases r with
  | nx s => exact fun σ F' A' H' o t => p σ F' A' H' o (st.trans t)
  | bk s => exact fun σ F' A' H' o t => p σ F' A' H' o (st.trans t)
  | ct s => exact fun σ F' A' H' o t => p σ F' A' H' o (st.trans t)
  | rt v s => exact fun u σ F' A' H' o t q => p u σ F' A' H' o (st.trans t) q
  | rto m s => exact fun u σ F' A' H' o t q => p u σ F' A' H' o (st.trans t) (q.after st)
  | ex c v s => exact fun d σ F' A' H' o t q => p d σ F' A' H' o (st.trans t) q
  | stuck => exact p
/-- other ends -/
theorem PostS.mono {C : Fx} {W : WX} {F H : Hp} {A : Nat → List Addr} {D D' : Ends} {r : Fl} (hn : ∀ s, r = .nx s → PostS C W F A H D (.nx s) → PostS C W F A H D' (.nx s)) (hb : ∀ s, r = .bk s → PostS C W F A H D (.bk s) → PostS C W F A H D' (.bk s)) (hc : ∀ s, r = .ct s → PostS C W F A H D (.ct s) → PostS C W F A H D' (.ct s))
    (hr : D'.rt = D.rt) (p : PostS C W F A H D r) : PostS C W F A H D' r := by
  cases r with
  | nx s => exact hn s rfl p
  | bk s => exact hb s rfl p
  | ct s => exact hc s rfl p
  | rt v s => intro u σ F' A' H' o t q; rw [hr]; exact p u σ F' A' H' o t q
  | rto m s => intro u σ F' A' H' o t q; rw [hr]; exact p u σ F' A' H' o t q
  | ex c v s => exact p
  | stuck => exact p
structure DS (X : Cx) (C : Fx) (W : WX) (st : Stmt) (g : Stt → Fl) : Prop where
  pr : ∃ ts, PS X st ts ∧ ∀ F A H σ s D, OkF C F A H σ s → PostS C W F A H D (g s) → ts D σ H
structure DSs (X : Cx) (C : Fx) (W : WX) (st : List Stmt) (g : Stt → Fl) : Prop where
  pr : ∃ ts, PSs X st ts ∧ ∀ F A H σ s D, OkF C F A H σ s → PostS C W F A H D (g s) → ts D σ H
/-- slots that vs does not tell are as they were -/
def SameOut (vs : Nat → Bool) (σ σ' : L2.St) : Prop := σ'.length = σ.length ∧ ∀ i, vs i = false → σ'[i]? = σ[i]?
theorem SameOut.refl (vs : Nat → Bool) (σ : L2.St) : SameOut vs σ σ := ⟨rfl, fun _ _ => rfl⟩
theorem SameOut.trans {vs : Nat → Bool} {σ σ1 σ2 : L2.St} (a : SameOut vs σ σ1) (b : SameOut vs σ1 σ2) : SameOut vs σ σ2 := ⟨b.1.trans a.1, fun i h => (b.2 i h).trans (a.2 i h)⟩
abbrev anyV : Nat → Bool := fun _ => true
/-- a target: what the store makes of the state -/
structure DG (X : Cx) (C : Fx) (vs : Nat → Bool) (tg : Expr) (a : PV → Stt → Option Stt) : Prop where
  pr : ∃ t, PG X tg t ∧ ∀ F A H σ s x p s' Q, OkF C F A H σ s → Rp C F x p → a p s = some s' → (∀ σ' F' A' H', OkF C F' A' H' σ' s' → Step C F A H F' A' H' → SameOut vs σ σ' → Q σ' H') → t x σ H Q
structure DGs (X : Cx) (C : Fx) (vs : Nat → Bool) (tg : List Expr) (a : List PV → Stt → Option Stt) : Prop where
  pr : ∃ t, PGs X tg t ∧ ∀ F A H σ s x p s' Q, OkF C F A H σ s → Rps C F x p → a p s = some s' → (∀ σ' F' A' H', OkF C F' A' H' σ' s' → Step C F A H F' A' H' → SameOut vs σ σ' → Q σ' H') → t x σ H Q
def setV (i : Nat) (p : PV) (s : Stt) : Stt := ⟨s.ro.set i (some (.val p)), s.mu⟩
def setO (i : Nat) (m : MO) (s : Stt) : Stt := ⟨s.ro.set i (some (.own m)), s.mu⟩
def dropA (A : Nat → List Addr) (i : Nat) : Nat → List Addr := fun j => if j = i then [] else A j
def putA (A : Nat → List Addr) (i : Nat) (fp : List Addr) : Nat → List Addr := fun j => if j = i then fp else A j
section
variable {C : Fx} {F H : Hp} {A : Nat → List Addr} {σ : L2.St} {s : Stt}
theorem OkF.setV {i : Nat} {u : V} {p : PV} (o : OkF C F A H σ s) (r : Rp C F u p) : OkF C F (dropA A i) H (σ.set i (some u)) (setV i p s) ∧ Step C F A H F (dropA A i) H := by
  have sub : ∀ j b, b ∈ dropA A i j → b ∈ A j := fun j b hb => by
    unfold dropA at hb
    split at hb
    · cases hb
    · exact hb
  refine ⟨⟨by simp [PL.setV, o.len], o.sub, fun j v e => ?_, fun j m e => ?_, o.nb, fun j k e => ?_, o.bor, fun j b hb => o.free j b (sub j b hb), fun j l b hj hl => o.dis j l b (sub _ _ hj) (sub _ _ hl), fun k b hk hb => ?_, o.disB, o.ext⟩, ⟨fun _ _ h => h, fun _ h => .inl h, fun b hb => ?_, fun _ _ h _ _ _ => h, fun _ h => h⟩⟩
  · unfold PL.setV at e
    by_cases hj : i = j
    · subst hj
      have hl : i < s.ro.length := by
        cases z : (s.ro.set i (some (SV.val p)))[i]? with
        | none => simp only [z] at e; cases e
        | some _ => have := (List.getElem?_eq_some_iff.mp z).1; rwa [List.length_set] at this
      simp only [List.getElem?_set_self hl] at e
      cases e
      exact ⟨u, List.getElem?_set_self (by rw [o.len]; exact hl), r⟩
    · simp only [List.getElem?_set_ne hj] at e ⊢
      exact o.val j v e
  · unfold PL.setV at e
    by_cases hj : i = j
    · subst hj
      have hl : i < s.ro.length := by
        cases z : (s.ro.set i (some (SV.val p)))[i]? with
        | none => simp only [z] at e; cases e
        | some _ => have := (List.getElem?_eq_some_iff.mp z).1; rwa [List.length_set] at this
      simp only [List.getElem?_set_self hl] at e
      cases e
    · simp only [List.getElem?_set_ne hj] at e ⊢
      unfold dropA
      rw [if_neg (Ne.symm hj)]
      exact o.own j m e
  · unfold PL.setV at e
    by_cases hj : i = j
    · subst hj
      have hl : i < s.ro.length := by
        cases z : (s.ro.set i (some (SV.val p)))[i]? with
        | none => simp only [z] at e; cases e
        | some _ => have := (List.getElem?_eq_some_iff.mp z).1; rwa [List.length_set] at this
      simp only [List.getElem?_set_self hl] at e
      cases e
    · simp only [List.getElem?_set_ne hj] at e ⊢
      exact o.lent j k e
  · exact ⟨(o.freeB k b hk hb).1, fun j z => (o.freeB k b hk hb).2 j (sub _ _ z)⟩
  · obtain ⟨j, hj⟩ := hb
    exact .inl ⟨j, sub _ _ hj⟩
/-- a fresh object goes to a slot -/
theorem OkF.setO {F0 H0 : Hp} {A0 : Nat → List Addr} {i : Nat} {p : Addr} {m : MO} (o : OkF C F A H σ s) (st : Step C F0 A0 H0 F A H) (f : Fresh C F0 A0 H0 F A H p m) (hi : i < s.ro.length) : ∃ A', OkF C F A' H (σ.set i (some (.ref p))) (setO i m s) ∧ Step C F0 A0 H0 F A' H := by
  obtain ⟨fp, hm, hf⟩ := f
  have cases' : ∀ j b, b ∈ putA A i fp j → (j = i ∧ b ∈ fp) ∨ (j ≠ i ∧ b ∈ A j) := fun j b hb => by
    unfold putA at hb
    split at hb
    · exact .inl ⟨by assumption, hb⟩
    · exact .inr ⟨by assumption, hb⟩
  refine ⟨putA A i fp, ⟨by simp [PL.setO, o.len], o.sub, fun j v e => ?_, fun j m' e => ?_, o.nb, fun j k e => ?_, o.bor, fun j b hb => ?_, fun j l b hj hl => ?_, fun k b hk hb => ?_, o.disB, o.ext⟩, ⟨st.s1, st.s2, fun b hb => ?_, st.s4, st.s5⟩⟩
  · unfold PL.setO at e
    by_cases hj : i = j
    · subst hj
      simp only [List.getElem?_set_self hi] at e
      cases e
    · simp only [List.getElem?_set_ne hj] at e ⊢
      exact o.val j v e
  · unfold PL.setO at e
    by_cases hj : i = j
    · subst hj
      simp only [List.getElem?_set_self hi] at e
      cases e
      refine ⟨p, List.getElem?_set_self (by rw [o.len]; exact hi), ?_⟩
      unfold putA
      rw [if_pos rfl]
      exact hm
    · simp only [List.getElem?_set_ne hj] at e ⊢
      unfold putA
      rw [if_neg (Ne.symm hj)]
      exact o.own j m' e
  · unfold PL.setO at e
    by_cases hj : i = j
    · subst hj
      simp only [List.getElem?_set_self hi] at e
      cases e
    · simp only [List.getElem?_set_ne hj] at e ⊢
      exact o.lent j k e
  · rcases cases' j b hb with ⟨_, h⟩ | ⟨_, h⟩
    · exact ⟨(hf b h).1, hm.there b h⟩
    · exact o.free j b h
  · rcases cases' j b hj with ⟨e1, h1⟩ | ⟨e1, h1⟩
    · rcases cases' l b hl with ⟨e2, h2⟩ | ⟨e2, h2⟩
      · rw [e1, e2]
      · exact absurd ⟨l, h2⟩ (hf b h1).2.1
    · rcases cases' l b hl with ⟨e2, h2⟩ | ⟨e2, h2⟩
      · exact absurd ⟨j, h1⟩ (hf b h2).2.1
      · exact o.dis j l b h1 h2
  · refine ⟨(o.freeB k b hk hb).1, fun j z => ?_⟩
    rcases cases' j b z with ⟨_, h⟩ | ⟨_, h⟩
    · exact (hf b h).2.2.1 ⟨k, hk, hb⟩
    · exact (o.freeB k b hk hb).2 j h
  · obtain ⟨j, hj⟩ := hb
    rcases cases' j b hj with ⟨_, h⟩ | ⟨_, h⟩
    · exact (hf b h).2.2.2.symm
    · exact st.s3 b ⟨j, h⟩
/-- the slots forgotten -/
theorem OkF.forget (o : OkF C F A H σ s) : OkF C F (fun _ => []) H [] ⟨[], s.mu⟩ :=
  ⟨rfl, o.sub, fun i v e => by simp at e, fun i m e => by simp at e, o.nb, fun i k e => by simp at e, o.bor, fun _ _ h => absurd h (by simp), fun _ _ _ h _ => absurd h (by simp), fun k b hk hb => ⟨(o.freeB k b hk hb).1, fun _ h => absurd h (by simp)⟩, o.disB, o.ext⟩
end
/-! ### statements -/
def gSeq (g h : Stt → Fl) : Stt → Fl := fun s => match g s with
  | .nx s1 => h s1
  | .rt v s1 => .rt v s1
  | .rto m s1 => .rto m s1
  | .bk s1 => .bk s1
  | .ct s1 => .ct s1
  | .ex c v s1 => .ex c v s1
  | .stuck => .stuck
def gNop : Stt → Fl := .nx
def Res.fl {α : Type} : Res α → (α → Stt → Fl) → Fl
  | .ok a s, f => f a s
  | .ex c v s, _ => .ex c v s
  | .stuck, _ => .stuck
@[simp] theorem Res.fl_ok {α : Type} (a : α) (s : Stt) (f : α → Stt → Fl) : (Res.ok a s).fl f = f a s := rfl
@[simp] theorem Res.fl_ex {α : Type} (c : Str) (v : PV) (s : Stt) (f : α → Stt → Fl) : (Res.ex c v s : Res α).fl f = .ex c v s := rfl
@[simp] theorem Res.fl_stuck {α : Type} (f : α → Stt → Fl) : (Res.stuck : Res α).fl f = .stuck := rfl
def gOpt : Option Stt → Fl
  | some s => .nx s
  | none => .stuck
def gAsg (fe : Stt → Res PV) (a : PV → Stt → Option Stt) : Stt → Fl := fun s => (fe s).fl fun p s1 => gOpt (a p s1)
def gRet (fe : Stt → Res PV) : Stt → Fl := fun s => (fe s).fl fun p s1 => .rt p s1
def gDrop (fe : Stt → Res PV) : Stt → Fl := fun s => (fe s).fl fun _ s1 => .nx s1
def gIf (ft : Stt → Res Bool) (g h : Stt → Fl) : Stt → Fl := fun s => (ft s).fl fun b s1 => if b = true then g s1 else h s1
def aName (i : Nat) : PV → Stt → Option Stt := fun p s => some (setV i p s)
def asNil : List PV → Stt → Option Stt
  | [], s => some s
  | _ :: _, _ => none
def asCons (a : PV → Stt → Option Stt) (b : List PV → Stt → Option Stt) : List PV → Stt → Option Stt
  | p :: ps, s => (a p s).bind fun s1 => b ps s1
  | [], _ => none
def aTup (n : Nat) (b : List PV → Stt → Option Stt) : PV → Stt → Option Stt
  | .tup l, s => if l.length = n then b l s else none
  | _, _ => none
/-- as Post.seq, into a statement -/
theorem PostS.seq {α β : Type} {C : Fx} {W : WX} {R : Hp → Hp → β → α → Prop} {F H : Hp} {A : Nat → List Addr} {σ : L2.St} {D : Ends} {r : Res α} {f : α → Stt → Fl} {Q1 : β → Hp → Prop}
    (p : PostS C W F A H D (r.fl f))
    (k : ∀ a s v F' A' H', r = .ok a s → OkF C F' A' H' σ s → Step C F A H F' A' H' → R F' H' v a → PostS C W F' A' H' D (f a s) → Q1 v H') : Post C W R F A H σ r Q1 := by
  cases r with
  | ok a s => exact fun v F' A' H' o t q => k a s v F' A' H' rfl o t q (p.after t)
  | ex c v s => exact fun d F' A' H' o t q => p d σ F' A' H' o t q
  | stuck => exact p
section
variable {X : Cx} {C : Fx} {W : WX} {st : Stmt} {sts : List Stmt} {e tg : Expr} {es tgs : List Expr} {pos : Pos} {fe : Stt → Res PV} {g h : Stt → Fl}
theorem dss_nil : DSs X C W [] gNop := ⟨_, pss_nil, fun F A H σ s D o p => p σ F A H o .refl⟩
theorem dss_cons (h1 : DS X C W st g) (h2 : DSs X C W sts h) : DSs X C W (st :: sts) (gSeq g h) := by
  obtain ⟨t1, p1, q1⟩ := h1.pr
  obtain ⟨t2, p2, q2⟩ := h2.pr
  refine ⟨_, pss_cons p1 p2, fun F A H σ s D o p => ?_⟩
  show t1 { D with nx := t2 D } σ H
  refine q1 F A H σ s _ o ?_
  unfold gSeq at p
  cases e : g s with
  | nx s1 =>
    rw [e] at p
    exact fun σ1 F1 A1 H1 o1 st1 => q2 F1 A1 H1 σ1 s1 D o1 (p.after st1)
  | rt v s1 => rw [e] at p; exact p
  | rto v s1 => rw [e] at p; exact p
  | bk s1 => rw [e] at p; exact p
  | ct s1 => rw [e] at p; exact p
  | ex c v s1 => rw [e] at p; exact p
  | stuck => rw [e] at p; exact p
theorem ds_expr (he : DV X C W e fe) (hs : swapsWith e none pos.line X.env = pure false := by rfl) : DS X C W (.Expr e pos) (gDrop fe) := by
  obtain ⟨te, pe, qe⟩ := he.pr
  refine ⟨_, ps_expr pe hs, fun F A H σ s D o p => ?_⟩
  exact qe F A H σ s _ o (PostS.seq p fun a s1 v F1 A1 H1 _ o1 st1 _ p1 => p1 σ F1 A1 H1 o1 .refl)
theorem ds_ret (he : DV X C W e fe) : DS X C W (.Return (some e) pos) (gRet fe) := by
  obtain ⟨te, pe, qe⟩ := he.pr
  refine ⟨_, ps_ret pe, fun F A H σ s D o p => ?_⟩
  exact qe F A H σ s _ o (PostS.seq p fun a s1 v F1 A1 H1 _ o1 st1 r1 p1 => p1 v σ F1 A1 H1 o1 .refl r1)
theorem ds_if {c : Expr} {a b : List Stmt} {fc : Stt → Res Bool} (hc : DT X C W c fc) (ha : DSs X C W a g) (hb : DSs X C W b h) : DS X C W (.If c a b pos) (gIf fc g h) := by
  obtain ⟨tc, pc, qc⟩ := hc.pr
  obtain ⟨ta, pa, qa⟩ := ha.pr
  obtain ⟨tb, pb, qb⟩ := hb.pr
  refine ⟨_, ps_if pc pa pb, fun F A H σ s D o p => ?_⟩
  refine qc F A H σ s _ o (PostS.seq p fun a s1 v F1 A1 H1 _ o1 st1 r1 p1 => ?_)
  obtain rfl : v = a := r1
  cases v with
  | true => exact iteT (qa F1 A1 H1 σ s1 D o1 (by simpa using p1))
  | false => exact iteF (qb F1 A1 H1 σ s1 D o1 (by simpa using p1))
theorem dg_name {vs : Nat → Bool} {i : Nat} {x : Str} (hN : X.N.Nodup) (hi : X.N[i]? = some x) (hx : Loc X.env.scope x) (hf : X.fn x = true ∨ X.env.scope.names.lookup x = some .local := by first | exact .inl rfl | exact .inr rfl | assumption) (hv : vs i = true := by rfl) : DG X C vs (.Name x pos) (aName i) := by
  refine ⟨_, pg_name hN hi hx hf, fun F A H σ s x p s' Q o r e k => ?_⟩
  cases e
  obtain ⟨o1, st1⟩ := o.setV (i := i) r
  exact k _ _ _ _ o1 st1 ⟨by simp, fun j hj => List.getElem?_set_ne (fun e => by rw [e, hj] at hv; cases hv)⟩
theorem dgs_nil {vs : Nat → Bool} : DGs X C vs [] asNil := by
  refine ⟨_, pgs_nil, fun F A H σ s x p s' Q o r e k => ?_⟩
  cases r with
  | nil => cases e; exact ⟨rfl, k _ _ _ _ o .refl (.refl _ _)⟩
  | cons _ _ => cases e
theorem dgs_cons {vs : Nat → Bool} {a : PV → Stt → Option Stt} {b : List PV → Stt → Option Stt} (h1 : DG X C vs tg a) (h2 : DGs X C vs tgs b) (hs : (assignEach (tg :: tgs) X.env).map (·.2) = assign tg X.env :: (assignEach tgs X.env).map (·.2) := by rfl) : DGs X C vs (tg :: tgs) (asCons a b) := by
  obtain ⟨t1, p1, q1⟩ := h1.pr
  obtain ⟨t2, p2, q2⟩ := h2.pr
  refine ⟨_, pgs_cons p1 p2 hs, fun F A H σ s x p s' Q o r e k => ?_⟩
  cases r with
  | nil => cases e
  | @cons v us p ps r1 r2 =>
    have e : (a p s).bind (fun s1 => b ps s1) = some s' := e
    cases e1 : a p s with
    | none => rw [e1] at e; cases e
    | some s1 =>
      rw [e1] at e
      exact ⟨v, us, rfl, q1 F A H σ s v p s1 _ o r1 e1 fun σ1 F1 A1 H1 o1 st1 so1 => q2 F1 A1 H1 σ1 s1 us ps s' Q o1 (r2.mono st1.s1) e fun σ2 F2 A2 H2 o2 st2 so2 => k σ2 F2 A2 H2 o2 (st1.trans st2) (so1.trans so2)⟩
theorem dg_tup {vs : Nat → Bool} {k n : Nat} {b : List PV → Stt → Option Stt} (hK : X.K = C.K) (hc : X.calm = true) (h : DGs X C vs es b) (hn : (assignEach es X.env).length = n := by rfl) (hst : (assignEach es X.env).findIdx? (·.1) = none := by rfl) : DG X C vs (.Tuple es k pos) (aTup n b) := by
  obtain ⟨t, p, q⟩ := h.pr
  refine ⟨_, pg_tup (n := n) hc p hn hst, fun F A H σ s x v s' Q o r e kk => ?_⟩
  cases r with
  | @tup a xs l hT hR =>
    have e : (if l.length = n then b l s else none) = some s' := e
    by_cases hl : l.length = n
    · rw [if_pos hl] at e
      exact ⟨a, xs, rfl, by rw [hK]; exact sqT_mono o.sub hT, by rw [hR.length]; exact hl, q F A H σ s xs l s' Q o hR e kk⟩
    · rw [if_neg hl] at e; cases e
  | _ => cases e
theorem ds_asg {a : PV → Stt → Option Stt} (he : DV X C W e fe) (hg : DG X C anyV tg a) (hs : swapsWithSole [tg] e pos.line X.env = pure false := by rfl) (hw : swappedStores [tg] e X.env = pure none := by rfl)
    (h1 : (assignEach [tg] X.env).map (·.2) = [assign tg X.env] := by rfl) : DS X C W (.Assign [tg] e pos) (gAsg fe a) := by
  obtain ⟨te, pe, qe⟩ := he.pr
  obtain ⟨t, p, q⟩ := hg.pr
  refine ⟨_, ps_asg pe p hs hw h1, fun F A H σ s D o pp => ?_⟩
  show te σ H fun x H1 => t x σ H1 D.nx
  refine qe F A H σ s _ o (PostS.seq pp fun a s1 v F1 A1 H1 _ o1 st1 r1 p1 => ?_)
  unfold gOpt at p1
  split at p1
  · rename_i s2 e2
    exact q F1 A1 H1 σ s1 v a s2 _ o1 r1 e2 fun σ2 F2 A2 H2 o2 st2 _ => p1 σ2 F2 A2 H2 o2 st2
  · exact p1.elim
theorem ds_set {i : Nat} {x : Str} {pos' : Pos} (hN : X.N.Nodup) (hi : X.N[i]? = some x) (hx : Loc X.env.scope x) (he : DV X C W e fe) (hs : swapsWith e (some (.Name x pos')) pos.line X.env = pure false := by rfl) (hf : X.fn x = true ∨ X.env.scope.names.lookup x = some .local := by first | exact .inl rfl | exact .inr rfl | assumption) :
    DS X C W (.Assign [.Name x pos'] e pos) (gAsg fe (aName i)) := by
  obtain ⟨te, pe, qe⟩ := he.pr
  refine ⟨_, ps_set hN hi hx pe hs hf, fun F A H σ s D o pp => ?_⟩
  refine qe F A H σ s _ o (PostS.seq pp fun a s1 v F1 A1 H1 _ o1 st1 r1 p1 => ?_)
  obtain ⟨o2, st2⟩ := o1.setV (i := i) r1
  exact p1 _ _ _ _ o2 st2
end
end PL
/-! PL3: loops, parallel stores, a def's promise and its call. -/
namespace PL
open PySem PySem.Spec PyProof.Rows L2
/-! ### while -/
def whileN (t : Stt → Res Bool) (b : Stt → Fl) : Nat → Stt → Fl
  | 0, _ => .stuck
  | n + 1, s => (t s).fl fun c s1 => if c = true then (match b s1 with
      | .nx s2 => whileN t b n s2
      | .ct s2 => whileN t b n s2
      | .bk s2 => .nx s2
      | .rt v s2 => .rt v s2
      | .rto m s2 => .rto m s2
      | .ex c v s2 => .ex c v s2
      | .stuck => .stuck) else .nx s1
theorem whileN_succ (t : Stt → Res Bool) (b : Stt → Fl) (n : Nat) (s : Stt) : whileN t b (n + 1) s = ((t s).fl fun c s1 => if c = true then (match b s1 with
      | .nx s2 => whileN t b n s2
      | .ct s2 => whileN t b n s2
      | .bk s2 => .nx s2
      | .rt v s2 => .rt v s2
      | .rto m s2 => .rto m s2
      | .ex c v s2 => .ex c v s2
      | .stuck => .stuck) else .nx s1) := rfl
theorem whileN_step (t : Stt → Res Bool) (b : Stt → Fl) : ∀ (n : Nat) (s : Stt), whileN t b n s ≠ .stuck → whileN t b (n + 1) s = whileN t b n s
  | 0, s, h => absurd rfl h
  | n + 1, s, h => by
    rw [whileN_succ t b (n + 1), whileN_succ t b n]
    rw [whileN_succ t b n] at h
    cases e : t s with
    | ok c s1 =>
      rw [e] at h
      cases c with
      | false => rfl
      | true =>
        simp only [Res.fl, if_true] at h ⊢
        cases e2 : b s1 with
        | nx s2 => rw [e2] at h; exact whileN_step t b n s2 h
        | ct s2 => rw [e2] at h; exact whileN_step t b n s2 h
        | bk s2 => rfl
        | rt v s2 => rfl
        | rto v s2 => rfl
        | ex c v s2 => rfl
        | stuck => rfl
    | ex c v s1 => rfl
    | stuck => rfl
theorem whileN_more (t : Stt → Res Bool) (b : Stt → Fl) {n : Nat} {s : Stt} (h : whileN t b n s ≠ .stuck) : ∀ k, whileN t b (n + k) s = whileN t b n s
  | 0 => rfl
  | k + 1 => by
    have ih := whileN_more t b h k
    rw [← Nat.add_assoc, whileN_step t b (n + k) s (by rw [ih]; exact h), ih]
theorem whileN_same (t : Stt → Res Bool) (b : Stt → Fl) {n m : Nat} {s : Stt} (h : whileN t b n s ≠ .stuck) (h' : whileN t b m s ≠ .stuck) : whileN t b n s = whileN t b m s := by
  rcases Nat.le_total n m with z | z
  · obtain ⟨k, rfl⟩ := Nat.exists_eq_add_of_le z
    exact (whileN_more t b h k).symm
  · obtain ⟨k, rfl⟩ := Nat.exists_eq_add_of_le z
    exact whileN_more t b h' k
open Classical in
/-- while: the end of the turns, if there is one -/
noncomputable def gWhile (t : Stt → Res Bool) (b : Stt → Fl) (s : Stt) : Fl :=
  if h : ∃ n, whileN t b n s ≠ .stuck then whileN t b (Classical.choose h) s else .stuck
theorem gWhile_eq {t : Stt → Res Bool} {b : Stt → Fl} {n : Nat} {s : Stt} {r : Fl} (h : whileN t b n s = r) (hr : r ≠ .stuck) : gWhile t b s = r := by
  have hn : whileN t b n s ≠ .stuck := by rw [h]; exact hr
  have hx : ∃ n, whileN t b n s ≠ .stuck := ⟨n, hn⟩
  unfold gWhile
  rw [dif_pos hx, whileN_same t b (Classical.choose_spec hx) hn, h]
theorem gWhile_at {t : Stt → Res Bool} {b : Stt → Fl} {s : Stt} (h : gWhile t b s ≠ .stuck) : ∃ n, whileN t b n s = gWhile t b s := by
  unfold gWhile at h ⊢
  split at h
  · rename_i hx
    rw [dif_pos hx]
    exact ⟨_, rfl⟩
  · exact absurd rfl h
section
variable {X : Cx} {C : Fx} {W : WX} {e tg : Expr} {es tgs : List Expr} {pos : Pos} {fe : Stt → Res PV} {g h : Stt → Fl}
theorem ds_while {c : Expr} {body : List Stmt} {fc : Stt → Res Bool} (hp : PassesOwn (model X.prog X.w) X.A X.env X.xe) (hc : DT X C W c fc) (hb : DSs X C W body g) : DS X C W (.While c body [] pos) (gWhile fc g) := by
  obtain ⟨tc, pc, qc⟩ := hc.pr
  obtain ⟨tb, pb, qb⟩ := hb.pr
  refine ⟨_, ps_while hp pc pb, fun F A H σ s D o p => ?_⟩
  have hns : gWhile fc g s ≠ .stuck := fun z => by rw [z] at p; exact p
  obtain ⟨n, hn⟩ := gWhile_at hns
  refine ⟨fun m σ1 H1 => ∃ F1 A1 s1, OkF C F1 A1 H1 σ1 s1 ∧ Step C F A H F1 A1 H1 ∧ whileN fc g m s1 = gWhile fc g s, ⟨n, F, A, s, o, .refl, hn⟩, ?_⟩
  rintro m σ1 H1 ⟨F1, A1, s1, o1, st1, hm⟩
  have p1 : PostS C W F1 A1 H1 D (whileN fc g m s1) := by rw [hm]; exact p.after st1
  cases m with
  | zero => exact absurd hm.symm hns
  | succ m =>
    rw [whileN_succ] at p1 hm
    refine qc F1 A1 H1 σ1 s1 _ o1 (PostS.seq p1 fun a s2 v F2 A2 H2 he o2 st2 r2 p2 => ?_)
    obtain rfl : v = a := r2
    cases v with
    | false =>
      refine iteF ?_
      exact (by simpa using p2 : PostS C W F2 A2 H2 D (.nx s2)) σ1 F2 A2 H2 o2 .refl
    | true =>
      refine iteT ⟨fun σ3 H3 => ∃ m', m' < m + 1 ∧ ∃ F3 A3 s3, OkF C F3 A3 H3 σ3 s3 ∧ Step C F A H F3 A3 H3 ∧ whileN fc g m' s3 = gWhile fc g s, fun σ3 H3 z => z, ?_⟩
      rw [he] at hm
      simp only [Res.fl, if_true] at hm p2
      refine qb F2 A2 H2 σ1 s2 _ o2 ?_
      cases e2 : g s2 with
      | nx s3 =>
        rw [e2] at hm
        exact fun σ3 F3 A3 H3 o3 st3 => ⟨m, Nat.lt_succ_self m, F3, A3, s3, o3, (st1.trans st2).trans st3, hm⟩
      | ct s3 =>
        rw [e2] at hm
        exact fun σ3 F3 A3 H3 o3 st3 => ⟨m, Nat.lt_succ_self m, F3, A3, s3, o3, (st1.trans st2).trans st3, hm⟩
      | bk s3 => rw [e2] at p2; exact p2
      | rt v s3 => rw [e2] at p2; exact p2
      | rto v s3 => rw [e2] at p2; exact p2
      | ex c v s3 => rw [e2] at p2; exact p2
      | stuck => rw [e2] at p2; exact p2
end
/-! ### for -/
def forL (a : PV → Stt → Option Stt) (b : Stt → Fl) : List PV → Stt → Fl
  | [], s => .nx s
  | p :: r, s => match a p s with
    | none => .stuck
    | some s1 => match b s1 with
      | .nx s2 => forL a b r s2
      | .ct s2 => forL a b r s2
      | .bk s2 => .nx s2
      | .rt v s2 => .rt v s2
      | .rto m s2 => .rto m s2
      | .ex c v s2 => .ex c v s2
      | .stuck => .stuck
/-- what a walk gives: the plain values l one by one -/
def RI (C : Fx) : Hp → Hp → It → List PV → Prop := fun F _ J l => ∃ (G : Hp → Prop) (Y : Nat → Hp → V → Hp → Prop), Walk J l.length G Y ∧ (∀ H2, Same F H2 → G H2) ∧
  ∀ i F1 A1 H1 σ s x H2 p, OkF C F1 A1 H1 σ s → Same F F1 → Y i H1 x H2 → l[i]? = some p → ∃ F2, OkF C F2 A1 H2 σ s ∧ Step C F1 A1 H1 F2 A1 H2 ∧ Rp C F2 x p
structure DI (X : Cx) (C : Fx) (W : WX) (tg iter : Expr) (f : Stt → Res (List PV)) : Prop where
  pr : ∃ ti, PI X tg iter ti ∧ ∀ F A H σ s (Q : It → Hp → Prop), OkF C F A H σ s → Post C W (RI C) F A H σ (f s) Q → ti σ H Q
def gFor (fi : Stt → Res (List PV)) (a : PV → Stt → Option Stt) (b : Stt → Fl) : Stt → Fl := fun s => (fi s).fl fun l s1 => forL a b l s1
theorem forL_cons (a : PV → Stt → Option Stt) (b : Stt → Fl) (p : PV) (r : List PV) (s s1 : Stt) (h : a p s = some s1) : forL a b (p :: r) s = match b s1 with
      | .nx s2 => forL a b r s2
      | .ct s2 => forL a b r s2
      | .bk s2 => .nx s2
      | .rt v s2 => .rt v s2
      | .rto m s2 => .rto m s2
      | .ex c v s2 => .ex c v s2
      | .stuck => .stuck := by
  show (match a p s with | none => _ | some s1 => _) = _
  rw [h]
section
variable {X : Cx} {C : Fx} {W : WX} {e tg : Expr} {es tgs : List Expr} {pos : Pos} {fe : Stt → Res PV} {g h : Stt → Fl}
theorem ds_for {iter : Expr} {body : List Stmt} {fi : Stt → Res (List PV)} {a : PV → Stt → Option Stt} (hp : PassesOwn (model X.prog X.w) X.A X.env X.xe) (hc : X.calm = true) (hi : DI X C W tg iter fi) (hg : DG X C anyV tg a) (hb : DSs X C W body g)
    (hs : ∀ x, foldedSetIterable iter X.env x = pure x := by intro _; rfl) : DS X C W (.For tg iter body [] pos) (gFor fi a g) := by
  obtain ⟨ti, pi, qi⟩ := hi.pr
  obtain ⟨tt, pt, qt⟩ := hg.pr
  obtain ⟨tb, pb, qb⟩ := hb.pr
  refine ⟨_, ps_for hp hc pi pt pb hs, fun F A H σ s D o p => ?_⟩
  show ti σ H fun J H1 => _
  refine qi F A H σ s _ o (PostS.seq p fun l s1 J F1 A1 H1 _ o1 st1 r1 p1 => ?_)
  obtain ⟨G, Y, w, hG, hY⟩ := r1
  -- the invariant: the rest of the list is what is left
  refine for_it w (fun i σ2 H2 => ∃ F2 A2 s2, OkF C F2 A2 H2 σ2 s2 ∧ Step C F1 A1 H1 F2 A2 H2 ∧ PostS C W F2 A2 H2 D (forL a g (l.drop i) s2)) ⟨F1, A1, s1, o1, .refl, p1⟩
    (fun i σ2 H2 _ ⟨F2, A2, s2, o2, st2, _⟩ => hG H2 (st2.s1.trans o2.sub)) ?_ ?_
  · rintro i x σ2 H2 H3 hi ⟨F2, A2, s2, o2, st2, p2⟩ y
    have hl : l[i]? = some l[i] := List.getElem?_eq_getElem hi
    obtain ⟨F3, o3, st3, r3⟩ := hY i F2 A2 H2 σ2 s2 x H3 l[i] o2 st2.s1 y hl
    rw [List.drop_eq_getElem_cons hi] at p2
    cases ea : a l[i] s2 with
    | none =>
      have z : forL a g (l[i] :: l.drop (i + 1)) s2 = .stuck := by
        show (match a l[i] s2 with | none => _ | some s1 => _) = _
        rw [ea]
      rw [z] at p2; exact p2.elim
    | some s3 =>
      rw [forL_cons _ _ _ _ _ _ ea] at p2
      refine qt F3 A2 H3 σ2 s2 x l[i] s3 _ o3 r3 ea fun σ4 F4 A4 H4 o4 st4 _ => ?_
      have p4 := p2.after (st3.trans st4)
      have sA := (st2.trans st3).trans st4
      refine qb F4 A4 H4 σ4 s3 _ o4 ?_
      cases e2 : g s3 with
      | nx s5 =>
        rw [e2] at p4
        exact fun σ5 F5 A5 H5 o5 st5 => ⟨F5, A5, s5, o5, sA.trans st5, p4.after st5⟩
      | ct s5 =>
        rw [e2] at p4
        exact fun σ5 F5 A5 H5 o5 st5 => ⟨F5, A5, s5, o5, sA.trans st5, p4.after st5⟩
      | bk s5 => rw [e2] at p4; exact p4
      | rt v s5 => rw [e2] at p4; exact p4
      | rto v s5 => rw [e2] at p4; exact p4
      | ex c v s5 => rw [e2] at p4; exact p4
      | stuck => rw [e2] at p4; exact p4
  · rintro σ2 H2 ⟨F2, A2, s2, o2, st2, p2⟩
    rw [List.drop_of_length_le (Nat.le_refl _)] at p2
    exact p2 σ2 F2 A2 H2 o2 .refl
end
/-! ### what is walked -/
section
variable {X : Cx} {C : Fx} {W : WX} {e tg : Expr} {es tgs : List Expr} {pos : Pos} {fe : Stt → Res PV} {fa : Stt → Res (List PV)}
theorem yat_ok {F : Hp} {xs : List V} {l : List PV} (hr : Rps C F xs l) : ∀ i F1 A1 H1 σ s x H2 p, OkF C F1 A1 H1 σ s → Same F F1 → YAt xs i H1 x H2 → l[i]? = some p → ∃ F2, OkF C F2 A1 H2 σ s ∧ Step C F1 A1 H1 F2 A1 H2 ∧ Rp C F2 x p := by
  rintro i F1 A1 H1 σ s x H2 p o sm ⟨rfl, hx⟩ hp
  obtain ⟨q, e, r⟩ := hr.getV hx
  rw [hp] at e; cases e
  exact ⟨F1, o, .refl, r.mono sm⟩
def iSeq (fe : Stt → Res PV) : Stt → Res (List PV) := fun s => (fe s).bind fun p s1 => match p with
  | .lst l => .ok l s1
  | _ => .stuck
/-- lo, lo + 1, .. -/
def rng (lo : Int) (n : Nat) : List PV := (List.range n).map fun i : Nat => PV.int (lo + i)
theorem rng_length (lo : Int) (n : Nat) : (rng lo n).length = n := by simp [rng]
/-- held back: the kernel shall not count it -/
noncomputable def inR (j : Int) : Bool := Classical.choose (⟨decide (-(2 ^ 62) ≤ j ∧ j < 2 ^ 62), rfl⟩ : ∃ b : Bool, b = decide (-(2 ^ 62) ≤ j ∧ j < 2 ^ 62))
noncomputable def iRange1 (fa : Stt → Res (List PV)) : Stt → Res (List PV) := fun s => (fa s).bind fun p s1 => match p with
  | [.int j] => if inR j = true then .ok (rng 0 j.toNat) s1 else .stuck
  | _ => .stuck
noncomputable def iRange2 (fa : Stt → Res (List PV)) : Stt → Res (List PV) := fun s => (fa s).bind fun p s1 => match p with
  | [.int i, .int j] => if (inR i && inR j) = true then .ok (rng i (j - i).toNat) s1 else .stuck
  | _ => .stuck
theorem rng_ok {F : Hp} (lo : Int) (n : Nat) : ∀ i F1 A1 H1 σ s x H2 p, OkF C F1 A1 H1 σ s → Same F F1 → YFn (fun i => V.int (lo + (i : Nat))) i H1 x H2 → (rng lo n)[i]? = some p → ∃ F2, OkF C F2 A1 H2 σ s ∧ Step C F1 A1 H1 F2 A1 H2 ∧ Rp C F2 x p := by
  rintro i F1 A1 H1 σ s x H2 p o sm ⟨rfl, rfl⟩ hp
  unfold rng at hp
  rw [List.getElem?_map] at hp
  cases e : (List.range n)[i]? with
  | none => rw [e] at hp; cases hp
  | some k =>
    rw [e] at hp
    obtain ⟨h1, h2⟩ := List.getElem?_eq_some_iff.mp e
    rw [List.getElem_range] at h2
    subst h2
    cases hp
    exact ⟨F1, o, .refl, .int _⟩
end
/-! ### a def's promise -/
/-- what a def comes to: a value, or a fresh object, and what the lent objects hold then -/
inductive FRes where
  | ok (v : PV) (mu : List MO) | own (m : MO) (mu : List MO) | ex (c : Str) (v : PV) (mu : List MO) | stuck
def noA : Nat → List Addr := fun _ => []
/-- the arguments: plain values, or lent objects -/
inductive RpA (C : Fx) (F : Hp) : List V → List SV → Prop
  | nil : RpA C F [] []
  | val {v : V} {p : PV} {vs : List V} {ps : List SV} : Rp C F v p → RpA C F vs ps → RpA C F (v :: vs) (.val p :: ps)
  | bor {k : Nat} {vs : List V} {ps : List SV} : k < C.nb → RpA C F vs ps → RpA C F (.ref (C.be k) :: vs) (.bor k :: ps)
theorem RpA.length {C : Fx} {F : Hp} {vs : List V} {ps : List SV} (h : RpA C F vs ps) : vs.length = ps.length := by
  induction h with
  | nil => rfl
  | val _ _ ih => simp [ih]
  | bor _ _ ih => simp [ih]
theorem RpA.at {C : Fx} {F : Hp} : ∀ {vs : List V} {ps : List SV} {i : Nat} {p : SV}, RpA C F vs ps → ps[i]? = some p → ∃ v, vs[i]? = some v ∧ ((∃ q, p = .val q ∧ Rp C F v q) ∨ ∃ k, p = .bor k ∧ k < C.nb ∧ v = .ref (C.be k))
  | _, _, _, _, .nil, e => by simp at e
  | _, _, 0, _, .val r _, e => by simp at e; subst e; exact ⟨_, rfl, .inl ⟨_, rfl, r⟩⟩
  | _, _, 0, _, .bor r _, e => by simp at e; subst e; exact ⟨_, rfl, .inr ⟨_, rfl, r, rfl⟩⟩
  | _, _, i + 1, _, .val _ t, e => by
    obtain ⟨v, h1, h2⟩ := RpA.at (i := i) t (by simpa using e)
    exact ⟨v, by simpa using h1, h2⟩
  | _, _, i + 1, _, .bor _ t, e => by
    obtain ⟨v, h1, h2⟩ := RpA.at (i := i) t (by simpa using e)
    exact ⟨v, by simpa using h1, h2⟩
def PostF (C : Fx) (F H : Hp) (Q : VK) (E : XK) : FRes → Prop
  | .ok v mu => ∀ u F' H', OkF C F' noA H' [] ⟨[], mu⟩ → Step C F noA H F' noA H' → Rp C F' u v → Q u H'
  | .own m mu => ∀ p F' H', OkF C F' noA H' [] ⟨[], mu⟩ → Step C F noA H F' noA H' → Fresh C F noA H F' noA H' p m → Q (.ref p) H'
  | .ex c v mu => ∀ d F' H', OkF C F' noA H' [] ⟨[], mu⟩ → Step C F noA H F' noA H' → XAt C F' H' d v → E (.ref (C.cl c)) (some d) H'
  | .stuck => False
/-- the promise: m tells all -/
def spOf (K : PySem.W.Frag) (cl : Str → Addr) (n : Nat) (m : List SV → List MO → FRes) : Sp := fun vs H Q E => vs.length = n ∧ ∃ C F ps mu, C.K = K ∧ C.cl = cl ∧ OkF C F noA H [] ⟨[], mu⟩ ∧ RpA C F vs ps ∧ PostF C F H Q E (m ps mu)
/-- from the body's end -/
def endF : Fl → FRes
  | .nx s => .ok .non s.mu
  | .rt v s => .ok v s.mu
  | .rto m s => .own m s.mu
  | .ex c v s => .ex c v s.mu
  | _ => .stuck
def start0 (n : Nat) (ps : List SV) (mu : List MO) : Stt := ⟨ps.map some ++ List.replicate (n - ps.length) none, mu⟩
def mOf (n : Nat) (g : Stt → Fl) : List SV → List MO → FRes := fun ps mu => endF (g (start0 n ps mu))
theorem okF_start {C : Fx} {F H : Hp} {N : List Str} {vs : List V} {ps : List SV} {mu : List MO} (o : OkF C F noA H [] ⟨[], mu⟩) (r : RpA C F vs ps) : OkF C F noA H (L2.start N vs) (start0 N.length ps mu) := by
  have key : ∀ (i : Nat) (x : SV), (start0 N.length ps mu).ro[i]? = some (some x) → ps[i]? = some x := fun i x e => by
    unfold start0 at e
    simp only at e
    by_cases hi : i < (ps.map some).length
    · rw [List.getElem?_append_left hi, List.getElem?_map] at e
      cases z : ps[i]? with
      | none => rw [z] at e; cases e
      | some y => rw [z] at e; cases e; rfl
    · rw [List.getElem?_append_right (Nat.le_of_not_lt hi), List.getElem?_replicate] at e
      split at e <;> cases e
  have st : ∀ (i : Nat) (v : V), vs[i]? = some v → (L2.start N vs)[i]? = some (some v) := fun i v e => by
    unfold L2.start
    have hi : i < vs.length := (List.getElem?_eq_some_iff.mp e).1
    rw [List.getElem?_append_left (by simpa using hi), List.getElem?_map, e]
    rfl
  refine ⟨?_, o.sub, fun i v e => ?_, fun i m e => ?_, o.nb, fun i k e => ?_, o.bor, fun _ _ h => absurd h (by simp [noA]), fun _ _ _ h _ => absurd h (by simp [noA]), o.freeB, o.disB, o.ext⟩
  · unfold L2.start start0
    simp only [List.length_append, List.length_map, List.length_replicate, r.length]
  · obtain ⟨u, h1, h2⟩ := r.at (key i _ e)
    rcases h2 with ⟨q, e1, h3⟩ | ⟨k, e1, _⟩
    · cases e1; exact ⟨u, st i u h1, h3⟩
    · cases e1
  · obtain ⟨u, h1, h2⟩ := r.at (key i _ e)
    rcases h2 with ⟨q, e1, h3⟩ | ⟨k, e1, _⟩ <;> cases e1
  · obtain ⟨u, h1, h2⟩ := r.at (key i _ e)
    rcases h2 with ⟨q, e1, h3⟩ | ⟨k', e1, h3, h4⟩
    · cases e1
    · cases e1; subst h4; exact ⟨st i _ h1, h3⟩
theorem Step.forget {C : Fx} {F H F' H' : Hp} {A' : Nat → List Addr} (st : Step C F noA H F' A' H') : Step C F noA H F' noA H' :=
  ⟨st.s1, st.s2, fun b ⟨i, h⟩ => absurd h (by simp [noA]), st.s4, st.s5⟩
theorem postF_end {C : Fx} {W : WX} {F H : Hp} {Q : VK} {E : XK} {r : Fl} (hW : ∀ c d σ H, E c d H → W c d σ H) (p : PostF C F H Q E (endF r)) : PostS C W F noA H { nx := fun _ H' => Q .non H', rt := Q } r := by
  cases r with
  | nx s => exact fun σ F' A' H' o st => p .non F' H' o.forget st.forget .non
  | rt v s => exact fun u σ F' A' H' o st r => p u F' H' o.forget st.forget r
  | rto m s =>
    refine fun q σ F' A' H' o st f => p q F' H' o.forget st.forget ?_
    obtain ⟨fp, h1, h2⟩ := f
    refine ⟨fp, h1, fun b hb => ?_⟩
    obtain ⟨k1, k2, k3, k4⟩ := h2 b hb
    exact ⟨k1, fun ⟨i, z⟩ => absurd z (by simp [noA]), k3, k4⟩
  | ex c v s => exact fun d σ F' A' H' o st x => hW _ _ _ _ (p d F' H' o.forget st.forget x)
  | bk s => exact p.elim
  | ct s => exact p.elim
  | stuck => exact p.elim
section
variable {P : Program} {w : World} {K : PySem.W.Frag} {mg : Str → Option Value} {base : Heap} {cl : Str → Addr}
/-- what a body's derivation may use -/
structure Bd (X : Cx) (W : WX) : Prop where
  calm : X.calm = true
  own : PassesOwn (model X.prog X.w) X.A X.env X.xe
  tk : L2N.Takes X W
  hd : X.A.handled = none
  gu : X.A.guards = some []
abbrev FnP (P : Program) (w : World) (K : PySem.W.Frag) (mg : Str → Option Value) (base : Heap) (cl : Str → Addr) (k : Nat) (f : Addr) (fd : FuncData) (ps : List Str) (m : List SV → List MO → FRes) : Prop := FnG P w K mg base (L2N.CX P w) k f fd ps (spOf K cl ps.length m)
/-- THE RULE for a def -/
theorem fnp {x qual : Str} {st : Stmt} {f : Addr} {fd : FuncData} {N ps : List Str} {k n : Nat} {g : Stt → Fl} (F : Fun K x qual st f fd) (S : FnScope N ps (defScope st)) (hn : N.length = n)
    (hbody : ∀ (cdv : Value) (A : Around) (outer : List Env) (s : Shared) (H : Hp) (E : XK) (C : Fx), C.K = K → C.cl = cl → Room k (A.deeper (envOfC qual (defScope st) s.heap.objs.size f cdv)) →
      Bd (cxOf (L2N.CX P w) P w K mg base N qual (defScope st) f cdv A outer s H E) (fun c d _ H => E c d H) →
      DSs (cxOf (L2N.CX P w) P w K mg base N qual (defScope st) f cdv A outer s H E) C (fun c d _ H => E c d H) (defBody st) g) : FnP P w K mg base cl (k + 1) f fd ps (mOf n g) := by
  subst hn
  refine fng_of F S (fun vs H Q E h => h.1) (fun cdv A outer s H vs Q E hr gu h => ?_)
  obtain ⟨hl, C, F0, as, mu, hK, hcl, o, r, p⟩ := h
  have bd : Bd (cxOf (L2N.CX P w) P w K mg base N qual (defScope st) f cdv A outer s H E) (fun c d _ H => E c d H) := ⟨rfl, passes_of (K := fun e s'' => L2N.CX P w outer H s E e s'') rfl, L2N.takes_of rfl rfl rfl rfl, hr.hd, gu⟩
  obtain ⟨t, h1, h2⟩ := (hbody cdv A outer s H E C hK hcl hr bd).pr
  exact ⟨t, h1, h2 F0 noA H _ _ _ (okF_start (N := N) o r) (postF_end (fun _ _ _ _ h => h) p)⟩
end
end PL
/-! PL4: fresh objects, calls of defs. -/
namespace PL
open PySem PySem.Spec PyProof.Rows L2
/-! ### fresh objects -/
def PostO (C : Fx) (W : WX) (F : Hp) (A : Nat → List Addr) (H : Hp) (σ : L2.St) (r : Res MO) (Q : VK) : Prop :=
  match r with
  | .ok m s => ∀ p F' A' H', OkF C F' A' H' σ s → Step C F A H F' A' H' → Fresh C F A H F' A' H' p m → Q (.ref p) H'
  | .ex c v s => ∀ d F' A' H', OkF C F' A' H' σ s → Step C F A H F' A' H' → XAt C F' H' d v → W (.ref (C.cl c)) (some d) σ H'
  | .stuck => False
/-- e comes to a fresh object -/
structure DO (X : Cx) (C : Fx) (W : WX) (e : Expr) (f : Stt → Res MO) : Prop where
  pr : ∃ te, PE X e te ∧ ∀ F A H σ s Q, OkF C F A H σ s → PostO C W F A H σ (f s) Q → te σ H Q
theorem PostO.after {C : Fx} {W : WX} {F F1 H H1 : Hp} {A A1 : Nat → List Addr} {σ : L2.St} {r : Res MO} {Q : VK} (st : Step C F A H F1 A1 H1) (p : PostO C W F A H σ r Q) : PostO C W F1 A1 H1 σ r Q := by
  cases r with
  | ok a s => exact fun v F' A' H' o t q => p v F' A' H' o (st.trans t) (q.after st)
  | ex c v s => exact fun d F' A' H' o t q => p d F' A' H' o (st.trans t) q
  | stuck => exact p
theorem PostO.seq {α β : Type} {C : Fx} {W : WX} {R : Hp → Hp → β → α → Prop} {F H : Hp} {A : Nat → List Addr} {σ : L2.St} {r : Res α} {f : α → Stt → Res MO} {Q : VK} {Q1 : β → Hp → Prop}
    (p : PostO C W F A H σ (r.bind f) Q)
    (k : ∀ a s v F' A' H', r = .ok a s → OkF C F' A' H' σ s → Step C F A H F' A' H' → R F' H' v a → PostO C W F' A' H' σ (f a s) Q → Q1 v H') : Post C W R F A H σ r Q1 := by
  cases r with
  | ok a s => exact fun v F' A' H' o t q => k a s v F' A' H' rfl o t q (p.after t)
  | ex c v s => exact p
  | stuck => exact p
/-- a new object that is not known to the plain part -/
theorem OkF.fresh {C : Fx} {F H : Hp} {A : Nat → List Addr} {σ : L2.St} {s : Stt} {p : Addr} {u : HO} {m : MO} (o : OkF C F A H σ s) (hp : H p = none) (hm : MAt C F (upd H p u) p [p] m) : OkF C F A (upd H p u) σ s ∧ Step C F A H F A (upd H p u) ∧ Fresh C F A H F A (upd H p u) p m := by
  have hF : F p = none := o.sub.free hp
  have sH : Same H (upd H p u) := fun b u e => by rw [upd_ne (ne_of_none e hp)]; exact e
  have nA : ∀ i, p ∉ A i := fun i z => (o.free i p z).2 hp
  have nB : ∀ q, q < C.nb → p ∉ C.Bf q := fun q hq z => by
    have hm : q < s.mu.length := by rw [o.nb]; exact hq
    exact (o.bor q s.mu[q] (List.getElem?_eq_getElem hm)).there p z hp
  refine ⟨⟨o.len, o.sub.trans sH, o.val, fun i m e => ?_, o.nb, o.lent, fun q m e => ?_, fun i b hb => ?_, o.dis, o.freeB, o.disB, ⟨o.ext.1, o.ext.2.ext0 sH⟩⟩, ⟨fun _ _ h => h, fun _ h => .inl h, fun _ h => .inl h, fun b x e _ _ _ => sH b x e, fun b hb => ?_⟩, [p], hm, fun b hb => ?_⟩
  · obtain ⟨q, h1, h2⟩ := o.own i m e
    exact ⟨q, h1, h2.keep (fun _ _ h => h) fun b x _ => sH b x⟩
  · exact (o.bor q m e).keep (fun _ _ h => h) fun b x _ => sH b x
  · obtain ⟨h1, h2⟩ := o.free i b hb
    have hne : b ≠ p := fun z => nA i (z ▸ hb)
    exact ⟨h1, by rw [upd_ne hne]; exact h2⟩
  · by_cases hbp : b = p
    · subst hbp; rw [upd_same]; simp
    · rw [upd_ne hbp]; exact hb
  · rw [List.mem_singleton] at hb
    subst hb
    exact ⟨hF, fun ⟨i, z⟩ => nA i z, fun ⟨q, hq, z⟩ => nB q hq z, .inl hp⟩
/-- a fresh list is a plain value from now on -/
theorem OkF.freeze {C : Fx} {F F' H H' : Hp} {A A' : Nat → List Addr} {σ : L2.St} {s : Stt} {p : Addr} {l : List PV} (o : OkF C F' A' H' σ s) (st : Step C F A H F' A' H') (f : Fresh C F A H F' A' H' p (.lst l)) :
    ∃ F2, OkF C F2 A' H' σ s ∧ Step C F A H F2 A' H' ∧ Rp C F2 (.ref p) (.lst l) := by
  obtain ⟨fp, ⟨rfl, xs, hx, hr⟩, hf⟩ := f
  obtain ⟨k1, k2, k3, k4⟩ := hf p List.mem_cons_self
  have sF : Same F' (upd F' p (.lst xs)) := fun b u e => by rw [upd_ne (ne_of_none e k1)]; exact e
  refine ⟨upd F' p (.lst xs), ⟨o.len, fun b u e => ?_, fun i v e => ?_, fun i m e => ?_, o.nb, o.lent, fun q m e => ?_, fun i b hb => ?_, o.dis, fun q b hq hb => ?_, o.disB, ⟨o.ext.1.trans sF, o.ext.2.off sF (fun b ps e h => by rw [upd_ne (fun z => by rw [z, hx] at e; cases e)]; exact h) fun _ _ _ h => h⟩⟩, ⟨st.s1.trans sF, fun b hb => ?_, st.s3, st.s4, st.s5⟩, .lst upd_same (hr.mono sF)⟩
  · by_cases hb : b = p
    · subst hb; rw [upd_same] at e; cases e; exact hx
    · rw [upd_ne hb] at e; exact o.sub b u e
  · obtain ⟨u, h1, h2⟩ := o.val i v e
    exact ⟨u, h1, h2.mono sF⟩
  · obtain ⟨q, h1, h2⟩ := o.own i m e
    exact ⟨q, h1, h2.keep sF fun b x _ h => h⟩
  · exact (o.bor q m e).keep sF fun b x _ h => h
  · obtain ⟨h1, h2⟩ := o.free i b hb
    have hne : b ≠ p := fun z => k2 ⟨i, z ▸ hb⟩
    exact ⟨by rw [upd_ne hne]; exact h1, h2⟩
  · obtain ⟨h1, h2⟩ := o.freeB q b hq hb
    have hne : b ≠ p := fun z => k3 ⟨q, hq, z ▸ hb⟩
    exact ⟨by rw [upd_ne hne]; exact h1, h2⟩
  · by_cases hbp : b = p
    · subst hbp
      rcases k4 with z | z
      · exact .inr (.inl z)
      · exact .inr (.inr z)
    · rw [upd_ne hbp] at hb; exact st.s2 b hb
def frz (f : Stt → Res MO) : Stt → Res PV := fun s => (f s).bind fun m s1 => match m with
  | .lst l => .ok (.lst l) s1
  | _ => .stuck
section
variable {X : Cx} {C : Fx} {W : WX} {e tg : Expr} {es : List Expr} {pos : Pos} {fe : Stt → Res PV} {fo : Stt → Res MO} {fa : Stt → Res (List PV)} {g h : Stt → Fl}
theorem dv_frz (he : DO X C W e fo) : DV X C W e (frz fo) := by
  obtain ⟨te, pe, qe⟩ := he.pr
  refine ⟨te, pe, fun F A H σ s Q o p => qe F A H σ s Q o ?_⟩
  unfold frz at p
  cases hr : fo s with
  | ok m s1 =>
    rw [hr] at p
    cases m with
    | lst l =>
      intro q F' A' H' o1 st1 fr
      obtain ⟨F2, o2, st2, r2⟩ := o1.freeze st1 fr
      exact p _ F2 A' H' o2 st2 r2
    | _ => exact p.elim
  | ex c v s1 => rw [hr] at p; exact p
  | stuck => rw [hr] at p; exact p
def gAsgO (i : Nat) (fo : Stt → Res MO) : Stt → Fl := fun s => (fo s).fl fun m s1 => if i < s1.ro.length then .nx (setO i m s1) else .stuck
theorem ds_setO {i : Nat} {x : Str} {pos' : Pos} (hN : X.N.Nodup) (hi : X.N[i]? = some x) (hx : Loc X.env.scope x) (he : DO X C W e fo) (hs : swapsWith e (some (.Name x pos')) pos.line X.env = pure false := by rfl) (hf : X.fn x = true ∨ X.env.scope.names.lookup x = some .local := by first | exact .inl rfl | exact .inr rfl | assumption) :
    DS X C W (.Assign [.Name x pos'] e pos) (gAsgO i fo) := by
  obtain ⟨te, pe, qe⟩ := he.pr
  refine ⟨_, ps_set hN hi hx pe hs hf, fun F A H σ s D o pp => ?_⟩
  refine qe F A H σ s _ o ?_
  unfold gAsgO at pp
  cases hr : fo s with
  | ok m s1 =>
    rw [hr] at pp
    intro q F' A' H' o1 st1 fr
    simp only [Res.fl] at pp
    split at pp
    · rename_i hl
      obtain ⟨A2, o2, st2⟩ := o1.setO st1 fr hl
      exact pp _ F' A2 H' o2 st2
    · exact pp.elim
  | ex c v s1 => rw [hr] at pp; exact fun d F' A' H' => pp d σ F' A' H'
  | stuck => rw [hr] at pp; exact pp
def gRetO (fo : Stt → Res MO) : Stt → Fl := fun s => (fo s).fl fun m s1 => .rto m s1
theorem ds_retO (he : DO X C W e fo) : DS X C W (.Return (some e) pos) (gRetO fo) := by
  obtain ⟨te, pe, qe⟩ := he.pr
  refine ⟨_, ps_ret pe, fun F A H σ s D o pp => ?_⟩
  refine qe F A H σ s _ o ?_
  unfold gRetO at pp
  cases hr : fo s with
  | ok m s1 =>
    rw [hr] at pp
    exact fun q F' A' H' o1 st1 fr => pp q σ F' A' H' o1 st1 fr
  | ex c v s1 => rw [hr] at pp; exact fun d F' A' H' => pp d σ F' A' H'
  | stuck => rw [hr] at pp; exact pp
/-- displays -/
def eTup (fa : Stt → Res (List PV)) : Stt → Res PV := fun s => (fa s).bind fun l s1 => if l.length ≤ 16777216 then .ok (.tup l) s1 else .stuck
def oLst (fa : Stt → Res (List PV)) : Stt → Res MO := fun s => (fa s).bind fun l s1 => if l.length ≤ 16777216 then .ok (.lst l) s1 else .stuck
theorem line_le {n : Nat} (h : n ≤ 16777216) : n ≤ sizeLine := by rw [sizeLine_eq]; exact h
theorem dv_tup {x1} (ha : DA X C W es fa) : DV X C W (.Tuple es x1 pos) (eTup fa) := by
  obtain ⟨ta, pa, qa⟩ := ha.pr
  refine ⟨_, pe_tup pa, fun F A H σ s Q o p => ?_⟩
  refine qa F A H σ s _ o (p.seq fun l s1 xs F1 A1 H1 _ o1 st1 r1 p1 => ?_)
  split at p1
  · rename_i hl
    refine ⟨by rw [r1.length]; exact line_le hl, fun q hq => ?_⟩
    obtain ⟨o2, st2⟩ := o1.alloc (o := .tup xs) hq
    exact p1 _ _ _ _ o2 st2 (.tup (.of upd_same) (r1.mono st2.s1))
  · exact p1.elim
theorem do_lst (ha : DA X C W es fa) : DO X C W (.List es pos) (oLst fa) := by
  obtain ⟨ta, pa, qa⟩ := ha.pr
  refine ⟨_, pe_lst pa, fun F A H σ s Q o p => ?_⟩
  refine qa F A H σ s _ o (PostO.seq p fun l s1 xs F1 A1 H1 _ o1 st1 r1 p1 => ?_)
  split at p1
  · rename_i hl
    refine ⟨by rw [r1.length]; exact line_le hl, fun q hq => ?_⟩
    obtain ⟨o2, st2, f2⟩ := o1.fresh (u := .lst xs) (m := .lst l) hq ⟨rfl, xs, upd_same, r1⟩
    exact p1 q _ _ _ o2 st2 f2
  · exact p1.elim
end
/-! ### calls of defs -/
inductive AV where
  | pv (p : PV) | sl (i : Nat)
inductive RAs (C : Fx) (σ : L2.St) (F : Hp) : List V → List AV → Prop
  | nil : RAs C σ F [] []
  | pv {v : V} {p : PV} {vs : List V} {ps : List AV} : Rp C F v p → RAs C σ F vs ps → RAs C σ F (v :: vs) (.pv p :: ps)
  | sl {v : V} {i : Nat} {vs : List V} {ps : List AV} : σ[i]? = some (some v) → RAs C σ F vs ps → RAs C σ F (v :: vs) (.sl i :: ps)
theorem RAs.mono {C : Fx} {σ : L2.St} {F F' : Hp} (e : Same F F') {vs : List V} {ps : List AV} (h : RAs C σ F vs ps) : RAs C σ F' vs ps := by
  induction h with
  | nil => exact .nil
  | pv r _ ih => exact .pv (r.mono e) ih
  | sl r _ ih => exact .sl r ih
structure DL (X : Cx) (C : Fx) (W : WX) (es : List Expr) (f : Stt → Res (List AV)) : Prop where
  pr : ∃ te, PA X es te ∧ ∀ F A H σ s Q, OkF C F A H σ s → Post C W (fun F _ vs ps => RAs C σ F vs ps) F A H σ (f s) Q → te σ H Q
def lNil : Stt → Res (List AV) := fun s => .ok [] s
def lPv (fa : Stt → Res PV) (fb : Stt → Res (List AV)) : Stt → Res (List AV) := fun s => (fa s).bind fun p s1 => (fb s1).bind fun q s2 => .ok (.pv p :: q) s2
def lSl (i : Nat) (fb : Stt → Res (List AV)) : Stt → Res (List AV) := fun s => match s.ro[i]? with
  | some (some (.own _)) => (fb s).bind fun q s2 => .ok (.sl i :: q) s2
  | some (some (.bor _)) => (fb s).bind fun q s2 => .ok (.sl i :: q) s2
  | _ => .stuck
/-- an object's name: the one that slot i owns, the k-th that was lent -/
inductive MKey where
  | inl (i : Nat) | inr (k : Nat)
  deriving DecidableEq
def keyOf (s : Stt) (i : Nat) : Option MKey := match s.ro[i]? with
  | some (some (.own _)) => some (.inl i)
  | some (some (.bor k)) => some (.inr k)
  | _ => none
def getK (s : Stt) : MKey → Option MO
  | .inl i => match s.ro[i]? with
    | some (some (.own m)) => some m
    | _ => none
  | .inr k => s.mu[k]?
def setK (s : Stt) : MKey → MO → Stt
  | .inl i, m => ⟨s.ro.set i (some (.own m)), s.mu⟩
  | .inr k, m => ⟨s.ro, s.mu.set k m⟩
def lowerA (s : Stt) : List AV → List MKey → Option (List SV × List MKey)
  | [], ks => some ([], ks)
  | .pv p :: r, ks => match lowerA s r ks with
    | some (ps, ks') => some (.val p :: ps, ks')
    | none => none
  | .sl i :: r, ks => match keyOf s i with
    | none => none
    | some k => match lowerA s r (ks ++ [k]) with
      | some (ps, ks') => some (.bor ks.length :: ps, ks')
      | none => none
def getAll (s : Stt) : List MKey → Option (List MO)
  | [] => some []
  | k :: r => match getK s k, getAll s r with
    | some m, some ms => some (m :: ms)
    | _, _ => none
def setAll : Stt → List MKey → List MO → Stt
  | s, k :: r, m :: ms => setAll (setK s k m) r ms
  | s, _, _ => s
def distinct : List MKey → Bool
  | [] => true
  | k :: r => decide (k ∉ r) && distinct r
def eCall (m : List SV → List MO → FRes) (fa : Stt → Res (List AV)) : Stt → Res PV := fun s => (fa s).bind fun avs s1 => match lowerA s1 avs [] with
  | none => .stuck
  | some (ps, ks) => if distinct ks = true then match getAll s1 ks with
    | none => .stuck
    | some ms => match m ps ms with
      | .ok v ms' => .ok v (setAll s1 ks ms')
      | .own (.lst l) ms' => .ok (.lst l) (setAll s1 ks ms')
      | .own _ _ => .stuck
      | .ex c v ms' => .ex c v (setAll s1 ks ms')
      | .stuck => .stuck
    else .stuck
def oCall (m : List SV → List MO → FRes) (fa : Stt → Res (List AV)) : Stt → Res MO := fun s => (fa s).bind fun avs s1 => match lowerA s1 avs [] with
  | none => .stuck
  | some (ps, ks) => if distinct ks = true then match getAll s1 ks with
    | none => .stuck
    | some ms => match m ps ms with
      | .ok _ _ => .stuck
      | .own o ms' => .ok o (setAll s1 ks ms')
      | .ex c v ms' => .ex c v (setAll s1 ks ms')
      | .stuck => .stuck
    else .stuck
end PL
/-! PL5: a call of a def: what the callee sees, what the caller has then. -/
namespace PL
open PySem PySem.Spec PyProof.Rows L2
mutual
theorem Rp.cg {C D : Fx} {F : Hp} (hk : D.K = C.K) (hc : D.cl = C.cl) (hf : D.fa = C.fa := by rfl) : ∀ {v : V} {p : PV}, Rp C F v p → Rp D F v p
  | _, _, .non => .non
  | _, _, .bl b => .bl b
  | _, _, .int i => .int i
  | _, _, .str x => .str x
  | _, _, .tup h r => .tup (by rw [hk]; exact h) (Rps.cg hk hc hf r)
  | _, _, .lst h r => .lst h (Rps.cg hk hc hf r)
  | _, _, .scr h r => .scr (by rw [hk]; exact h) (Rps.cg hk hc hf r)
  | _, _, .ins h r => .ins (by rw [hc]; exact h) (Rpf.cg hk hc hf r)
  | _, _, .fnp => hf ▸ .fnp
  | _, _, .exi h k r => .exi (by rw [hc]; exact h) k (Rp.cg hk hc hf r)
  | _, _, .dcv h k r => .dcv h k (Rps.cg hk hc hf r)
theorem Rps.cg {C D : Fx} {F : Hp} (hk : D.K = C.K) (hc : D.cl = C.cl) (hf : D.fa = C.fa := by rfl) : ∀ {v : List V} {p : List PV}, Rps C F v p → Rps D F v p
  | _, _, .nil => .nil
  | _, _, .cons h r => .cons (Rp.cg hk hc hf h) (Rps.cg hk hc hf r)
theorem Rpf.cg {C D : Fx} {F : Hp} (hk : D.K = C.K) (hc : D.cl = C.cl) (hf : D.fa = C.fa := by rfl) : ∀ {v : List (Str × V)} {p : List (Str × PV)}, Rpf C F v p → Rpf D F v p
  | _, _, .nil => .nil
  | _, _, .cons h r => .cons (Rp.cg hk hc hf h) (Rpf.cg hk hc hf r)
end
theorem Lls.cg {C D : Fx} {F H : Hp} (hk : D.K = C.K) (hc : D.cl = C.cl) (hf : D.fa = C.fa := by rfl) : ∀ {as : List Addr} {ls : List (List PV)}, Lls C F H as ls → Lls D F H as ls
  | [], [], _ => trivial
  | a :: as, l :: ls, ⟨⟨xs, h1, h2⟩, h⟩ => ⟨⟨xs, h1, h2.cg hk hc hf⟩, Lls.cg hk hc hf h⟩
  | [], _ :: _, h => h.elim
  | _ :: _, [], h => h.elim
theorem MAt.cg {C D : Fx} {F H : Hp} {p : Addr} {fp : List Addr} {m : MO} (hk : D.K = C.K) (hc : D.cl = C.cl) (h : MAt C F H p fp m) (hf : D.fa = C.fa := by rfl) : MAt D F H p fp m := by
  cases m with
  | lst l => obtain ⟨h1, xs, h2, h3⟩ := h; exact ⟨h1, xs, h2, h3.cg hk hc hf⟩
  | ins c l => obtain ⟨h1, dx, fs, h2, h3⟩ := h; exact ⟨h1, dx, fs, by rw [hc]; exact h2, h3.cg hk hc hf⟩
  | dct l => obtain ⟨h1, ks, h2, h3, h4⟩ := h; exact ⟨h1, ks, h2, h3, h4.cg hk hc hf⟩
  | lls l => obtain ⟨as, h1, h2, h3, h4, h5⟩ := h; exact ⟨as, h1, h2, h3, h4, h5.cg hk hc hf⟩
  | bag g l t b => exact h
def adr (σ : L2.St) (C : Fx) : MKey → Addr
  | .inl i => match σ[i]? with
    | some (some (.ref p)) => p
    | _ => 0
  | .inr k => C.be k
def fpr (A : Nat → List Addr) (C : Fx) : MKey → List Addr
  | .inl i => A i
  | .inr k => C.Bf k
def subC (σ : L2.St) (A : Nat → List Addr) (C : Fx) (ks : List MKey) : Fx := ⟨C.K, C.cl, ks.length, fun j => adr σ C (ks.getD j (.inl 0)), fun j => fpr A C (ks.getD j (.inl 0)), C.fa, C.F0⟩
theorem setAll_ro : ∀ (ks : List MKey) (ms : List MO) (s : Stt), ks.length = ms.length → ∀ (i : Nat) x, (setAll s ks ms).ro[i]? = some x → (∃ (j : Nat) (m : MO), ks[j]? = some (MKey.inl i) ∧ ms[j]? = some m ∧ x = some (SV.own m)) ∨ (s.ro[i]? = some x ∧ MKey.inl i ∉ ks)
  | [], [], s, _, i, x, h => .inr ⟨h, by simp⟩
  | [], _ :: _, s, hl, i, x, h => by simp at hl
  | _ :: _, [], s, hl, i, x, h => by simp at hl
  | k :: r, m :: ms, s, hl, i, x, h => by
    rcases setAll_ro r ms (setK s k m) (by simpa using hl) i x h with ⟨j, m', h1, h2, h3⟩ | ⟨h1, h2⟩
    · exact .inl ⟨j + 1, m', by simpa using h1, by simpa using h2, h3⟩
    · cases k with
      | inr k =>
        refine .inr ⟨h1, ?_⟩
        intro z
        rcases List.mem_cons.mp z with z | z
        · cases z
        · exact h2 z
      | inl i0 =>
        by_cases hi : i0 = i
        · subst hi
          refine .inl ⟨0, m, rfl, rfl, ?_⟩
          have h1 : (s.ro.set i0 (some (.own m)))[i0]? = some x := h1
          have hlt : i0 < s.ro.length := by
            have := (List.getElem?_eq_some_iff.mp h1).1
            rwa [List.length_set] at this
          rw [List.getElem?_set_self hlt] at h1
          cases h1; rfl
        · have h1 : (s.ro.set i0 (some (.own m)))[i]? = some x := h1
          rw [List.getElem?_set_ne hi] at h1
          refine .inr ⟨h1, fun z => ?_⟩
          rcases List.mem_cons.mp z with z | z
          · cases z; exact hi rfl
          · exact h2 z
theorem setAll_mu : ∀ (ks : List MKey) (ms : List MO) (s : Stt), ks.length = ms.length → ∀ (i : Nat) x, (setAll s ks ms).mu[i]? = some x → (∃ (j : Nat), ks[j]? = some (MKey.inr i) ∧ ms[j]? = some x) ∨ (s.mu[i]? = some x ∧ MKey.inr i ∉ ks)
  | [], [], s, _, i, x, h => .inr ⟨h, by simp⟩
  | [], _ :: _, s, hl, i, x, h => by simp at hl
  | _ :: _, [], s, hl, i, x, h => by simp at hl
  | k :: r, m :: ms, s, hl, i, x, h => by
    rcases setAll_mu r ms (setK s k m) (by simpa using hl) i x h with ⟨j, h1, h2⟩ | ⟨h1, h2⟩
    · exact .inl ⟨j + 1, by simpa using h1, by simpa using h2⟩
    · cases k with
      | inl k =>
        refine .inr ⟨h1, ?_⟩
        intro z
        rcases List.mem_cons.mp z with z | z
        · cases z
        · exact h2 z
      | inr i0 =>
        by_cases hi : i0 = i
        · subst hi
          have h1 : (s.mu.set i0 m)[i0]? = some x := h1
          have hlt : i0 < s.mu.length := by
            have := (List.getElem?_eq_some_iff.mp h1).1
            rwa [List.length_set] at this
          rw [List.getElem?_set_self hlt] at h1
          cases h1
          exact .inl ⟨0, rfl, rfl⟩
        · have h1 : (s.mu.set i0 m)[i]? = some x := h1
          rw [List.getElem?_set_ne hi] at h1
          refine .inr ⟨h1, fun z => ?_⟩
          rcases List.mem_cons.mp z with z | z
          · cases z; exact hi rfl
          · exact h2 z
theorem setAll_lens : ∀ (ks : List MKey) (ms : List MO) (s : Stt), (setAll s ks ms).ro.length = s.ro.length ∧ (setAll s ks ms).mu.length = s.mu.length
  | [], [], s => ⟨rfl, rfl⟩
  | [], _ :: _, s => ⟨rfl, rfl⟩
  | _ :: _, [], s => ⟨rfl, rfl⟩
  | k :: r, m :: ms, s => by
    obtain ⟨h1, h2⟩ := setAll_lens r ms (setK s k m)
    have e1 : (setK s k m).ro.length = s.ro.length := by cases k <;> simp [setK]
    have e2 : (setK s k m).mu.length = s.mu.length := by cases k <;> simp [setK]
    exact ⟨h1.trans e1, h2.trans e2⟩
theorem getAll_at : ∀ {ks : List MKey} {ms : List MO} {s : Stt}, getAll s ks = some ms → ks.length = ms.length ∧ ∀ (j : Nat) (k : MKey), ks[j]? = some k → ∃ m, ms[j]? = some m ∧ getK s k = some m
  | [], ms, s, h => by
    cases h
    exact ⟨rfl, fun j k e => by simp at e⟩
  | k :: r, ms, s, h => by
    unfold getAll at h
    split at h
    · rename_i m ms' e1 e2
      cases h
      obtain ⟨h1, h2⟩ := getAll_at e2
      refine ⟨by simp [h1], fun j k' e => ?_⟩
      cases j with
      | zero => simp at e; subst e; exact ⟨m, rfl, e1⟩
      | succ j => exact h2 j k' (by simpa using e)
    · cases h
theorem distinct_ne : ∀ {ks : List MKey}, distinct ks = true → ∀ (i j : Nat) (k : MKey), ks[i]? = some k → ks[j]? = some k → i = j
  | [], _, i, j, k, h, _ => by simp at h
  | k0 :: r, hd, i, j, k, h1, h2 => by
    unfold distinct at hd
    rw [Bool.and_eq_true] at hd
    have nk : k0 ∉ r := of_decide_eq_true hd.1
    cases i with
    | zero =>
      cases j with
      | zero => rfl
      | succ j =>
        simp at h1 h2
        subst h1
        exact absurd (List.mem_of_getElem? h2) nk
    | succ i =>
      cases j with
      | zero =>
        simp at h1 h2
        subst h2
        exact absurd (List.mem_of_getElem? h1) nk
      | succ j => rw [distinct_ne hd.2 i j k (by simpa using h1) (by simpa using h2)]
section
variable {C : Fx} {F H : Hp} {A : Nat → List Addr} {σ : L2.St} {s : Stt}
/-- a valid key's object -/
theorem key_at (o : OkF C F A H σ s) {k : MKey} {m : MO} (h : getK s k = some m) : MAt C F H (adr σ C k) (fpr A C k) m ∧ (∀ b, b ∈ fpr A C k → F b = none ∧ H b ≠ none) ∧ (∀ i, k = .inl i → σ[i]? = some (some (.ref (adr σ C k)))) ∧ (∀ q, k = .inr q → q < C.nb) := by
  cases k with
  | inl i =>
    unfold getK at h
    simp only at h
    split at h
    · rename_i m' e
      cases h
      obtain ⟨p, h1, h2⟩ := o.own i m e
      have ea : adr σ C (.inl i) = p := by
        show (match σ[i]? with | some (some (.ref p)) => p | _ => 0) = p
        rw [h1]
      rw [ea]
      exact ⟨h2, fun b hb => o.free i b hb, fun j e => by cases e; exact h1, fun q e => by cases e⟩
    · cases h
  | inr k =>
    have h1 := o.bor k m h
    have hk : k < C.nb := by rw [← o.nb]; exact (List.getElem?_eq_some_iff.mp h).1
    refine ⟨h1, fun b hb => ⟨(o.freeB k b hk hb).1, h1.there b hb⟩, fun j e => ?_, fun q e => ?_⟩
    · cases e
    · cases e; exact hk
theorem key_dis (o : OkF C F A H σ s) {k k' : MKey} (h : ∀ q, k = .inr q → q < C.nb) (h' : ∀ q, k' = .inr q → q < C.nb) {b : Addr} (hb : b ∈ fpr A C k) (hb' : b ∈ fpr A C k') : k = k' := by
  cases k with
  | inl i =>
    cases k' with
    | inl j => rw [o.dis i j b hb hb']
    | inr q => exact absurd hb ((o.freeB q b (h' q rfl) hb').2 i)
  | inr q =>
    cases k' with
    | inl j => exact absurd hb' ((o.freeB q b (h q rfl) hb).2 j)
    | inr q' => rw [o.disB q q' b (h q rfl) (h' q' rfl) hb hb']
theorem lower_ext : ∀ {avs : List AV} {ks ks' : List MKey} {ps : List SV}, lowerA s avs ks = some (ps, ks') → ∃ r, ks' = ks ++ r
  | [], ks, ks', ps, h => by cases h; exact ⟨[], by simp⟩
  | .pv p :: r, ks, ks', ps, h => by
    unfold lowerA at h
    split at h
    · rename_i ps' ks'' e
      cases h
      exact lower_ext e
    · cases h
  | .sl i :: r, ks, ks', ps, h => by
    unfold lowerA at h
    split at h
    · cases h
    · rename_i k e
      split at h
      · rename_i ps' ks'' e2
        cases h
        obtain ⟨x, e3⟩ := lower_ext e2
        exact ⟨k :: x, by rw [e3, List.append_assoc]; rfl⟩
      · cases h
theorem lower_rp (o : OkF C F A H σ s) {D : Fx} (hk : D.K = C.K) (hc : D.cl = C.cl) (hfa : D.fa = C.fa) (ks0 : List MKey) (hn : D.nb = ks0.length) (hb : ∀ (j : Nat) (k : MKey), ks0[j]? = some k → D.be j = adr σ C k) :
    ∀ {avs : List AV} {vs : List V} {ks ks' : List MKey} {ps : List SV}, lowerA s avs ks = some (ps, ks') → (∃ r, ks0 = ks' ++ r) → RAs C σ F vs avs → RpA D F vs ps
  | [], vs, ks, ks', ps, h, _, r => by cases h; cases r; exact .nil
  | .pv p :: r, vs, ks, ks', ps, h, he, ra => by
    unfold lowerA at h
    split at h
    · rename_i ps' ks'' e
      cases h
      cases ra with
      | pv r1 r2 => exact .val (r1.cg hk hc hfa) (lower_rp o hk hc hfa ks0 hn hb e he r2)
    · cases h
  | .sl i :: r, vs, ks, ks', ps, h, he, ra => by
    unfold lowerA at h
    split at h
    · cases h
    · rename_i k ek
      split at h
      · rename_i ps' ks'' e2
        cases h
        cases ra with
        | @sl v _ vs' _ r1 r2 =>
          obtain ⟨x, e3⟩ := lower_ext e2
          obtain ⟨y, e4⟩ := he
          have ej : ks0[ks.length]? = some k := by
            rw [e4, e3]
            simp
          have hlt : ks.length < D.nb := by rw [hn]; exact (List.getElem?_eq_some_iff.mp ej).1
          have ev : v = .ref (D.be ks.length) := by
            rw [hb _ _ ej]
            unfold keyOf at ek
            split at ek
            · rename_i m e
              cases ek
              obtain ⟨p, h1, _⟩ := o.own i m e
              rw [h1] at r1
              cases r1
              show V.ref p = V.ref (match σ[i]? with | some (some (.ref p)) => p | _ => 0)
              rw [h1]
            · rename_i q e
              cases ek
              have := (o.lent i q e).1
              rw [this] at r1
              cases r1
              rfl
            · cases ek
          rw [ev]
          exact .bor hlt (lower_rp o hk hc hfa ks0 hn hb e2 ⟨y, e4⟩ r2)
      · cases h
/-- THE CALL -/
theorem call_core (o : OkF C F A H σ s) {avs : List AV} {vs : List V} {ps : List SV} {ks : List MKey} {ms : List MO} (hl : lowerA s avs [] = some (ps, ks)) (hd : distinct ks = true) (hg : getAll s ks = some ms) (r : RAs C σ F vs avs) :
    OkF (subC σ A C ks) F noA H [] ⟨[], ms⟩ ∧ RpA (subC σ A C ks) F vs ps ∧
      ∀ F' H' ms', OkF (subC σ A C ks) F' noA H' [] ⟨[], ms'⟩ → Step (subC σ A C ks) F noA H F' noA H' →
        OkF C F' A H' σ (setAll s ks ms') ∧ Step C F A H F' A H' ∧ ∀ p m, Fresh (subC σ A C ks) F noA H F' noA H' p m → Fresh C F A H F' A H' p m := by
  obtain ⟨lms, hms⟩ := getAll_at hg
  have kg : ∀ (j : Nat) (k : MKey), ks[j]? = some k → ks.getD j (.inl 0) = k := fun j k e => by rw [List.getD_eq_getElem?_getD, e]; rfl
  have kv : ∀ (j : Nat), j < ks.length → ∃ (k : MKey) (m : MO), ks[j]? = some k ∧ ms[j]? = some m ∧ getK s k = some m := fun j hj => by
    obtain ⟨m, h1, h2⟩ := hms j ks[j] (List.getElem?_eq_getElem hj)
    exact ⟨ks[j], m, List.getElem?_eq_getElem hj, h1, h2⟩
  have nofr : ∀ {X : Addr}, ¬ OwnA noA X := fun {X} ⟨i, h⟩ => absurd h (by simp [noA])
  refine ⟨⟨rfl, o.sub, fun i v e => by simp at e, fun i m e => by simp at e, lms.symm, fun i k e => by simp at e, fun j m e => ?_, fun _ _ h => absurd h (by simp [noA]), fun _ _ _ h _ => absurd h (by simp [noA]), fun j b hj hb => ?_, fun i j b hi hj hb hb' => ?_, o.ext⟩,
    lower_rp (D := subC σ A C ks) o rfl rfl rfl ks rfl (fun j k e => by show adr σ C (ks.getD j (.inl 0)) = _; rw [kg j k e]) hl ⟨[], by simp⟩ r, fun F' H' ms' o' st => ?_⟩
  · have hj : j < ks.length := by rw [lms]; exact (List.getElem?_eq_some_iff.mp e).1
    obtain ⟨k, m', h1, h2, h3⟩ := kv j hj
    have e' : ms[j]? = some m := e
    rw [h2] at e'; cases e'
    show MAt (subC σ A C ks) F H (adr σ C (ks.getD j _)) (fpr A C (ks.getD j _)) m
    rw [kg j k h1]
    exact (key_at o h3).1.cg (by rfl) (by rfl)
  · obtain ⟨k, m', h1, h2, h3⟩ := kv j hj
    have hb' : b ∈ fpr A C (ks.getD j (.inl 0)) := hb
    rw [kg j k h1] at hb'
    exact ⟨((key_at o h3).2.1 b hb').1, fun _ h => absurd h (by simp [noA])⟩
  · obtain ⟨k, m', h1, h2, h3⟩ := kv i hi
    obtain ⟨k', m'', h1', h2', h3'⟩ := kv j hj
    have hb1 : b ∈ fpr A C (ks.getD i (.inl 0)) := hb
    have hb2 : b ∈ fpr A C (ks.getD j (.inl 0)) := hb'
    rw [kg i k h1] at hb1
    rw [kg j k' h1'] at hb2
    have ek := key_dis o (key_at o h3).2.2.2 (key_at o h3').2.2.2 hb1 hb2
    exact distinct_ne hd i j k h1 (by rw [ek]; exact h1')
  · -- behind the call
    have lms' : ks.length = ms'.length := o'.nb.symm
    have bor_in : ∀ b, Bor (subC σ A C ks) b → OwnA A b ∨ Bor C b := fun b ⟨j, hj, hb⟩ => by
      obtain ⟨k, m', h1, h2, h3⟩ := kv j hj
      have hb' : b ∈ fpr A C (ks.getD j (.inl 0)) := hb
      rw [kg j k h1] at hb'
      cases k with
      | inl i => exact .inl ⟨i, hb'⟩
      | inr q => exact .inr ⟨q, (key_at o h3).2.2.2 q rfl, hb'⟩
    have stay : ∀ k, (∀ q, k = MKey.inr q → q < C.nb) → k ∉ ks → ∀ b x, b ∈ fpr A C k → ¬ Tbx x → H b = some x → H' b = some x := fun k hk nk b x hb nt hx => by
      refine st.s4 b x hx (Tbx.tbl nt) nofr ?_
      rintro ⟨j, hj, hb2⟩
      obtain ⟨k', m', h1, h2, h3⟩ := kv j hj
      have hb' : b ∈ fpr A C (ks.getD j (.inl 0)) := hb2
      rw [kg j k' h1] at hb'
      have := key_dis o hk (key_at o h3).2.2.2 hb hb'
      rw [this] at nk
      exact nk (List.mem_of_getElem? h1)
    have keepN : ∀ b, F b = none → H b ≠ none → F' b = none := fun b h1 h2 => by
      cases e : F' b with
      | none => rfl
      | some x =>
        rcases st.s2 b (by rw [e]; simp) with z | z | z
        · exact absurd h1 z
        · exact absurd z h2
        · exact absurd z nofr
    have borKey : ∀ (q : Nat) (m : MO), s.mu[q]? = some m → getK s (.inr q) = some m := fun q m e => e
    refine ⟨⟨?_, o'.sub, fun i v e => ?_, fun i m e => ?_, ?_, fun i k e => ?_, fun k m e => ?_, fun i b hb => ?_, o.dis, fun k b hk hb => ?_, o.disB, ⟨o.ext.1.trans st.s1, o'.ext.2⟩⟩, ⟨st.s1, fun b hb => ?_, fun b hb => .inl hb, fun b x hx nt n1 n2 => ?_, st.s5⟩, fun p m f => ?_⟩
    · rw [(setAll_lens ks ms' s).1]; exact o.len
    · rcases setAll_ro ks ms' s lms' i _ e with ⟨j, m, h1, h2, h3⟩ | ⟨h1, h2⟩
      · cases h3
      · obtain ⟨u, h3, h4⟩ := o.val i v h1
        exact ⟨u, h3, h4.mono st.s1⟩
    · rcases setAll_ro ks ms' s lms' i _ e with ⟨j, m', h1, h2, h3⟩ | ⟨h1, h2⟩
      · cases h3
        have hj : j < ks.length := (List.getElem?_eq_some_iff.mp h1).1
        obtain ⟨k, m0, g1, g2, g3⟩ := kv j hj
        rw [h1] at g1; cases g1
        refine ⟨_, (key_at o g3).2.2.1 i rfl, ?_⟩
        have z : MAt (subC σ A C ks) F' H' (adr σ C (ks.getD j (.inl 0))) (fpr A C (ks.getD j (.inl 0))) m := o'.bor j m h2
        rw [kg j _ h1] at z
        exact z.cg (by rfl) (by rfl)
      · obtain ⟨p, h3, h4⟩ := o.own i m h1
        exact ⟨p, h3, h4.keepT st.s1 (stay (.inl i) (fun q z => by cases z) h2)⟩
    · rw [(setAll_lens ks ms' s).2]; exact o.nb
    · rcases setAll_ro ks ms' s lms' i _ e with ⟨j, m', h1, h2, h3⟩ | ⟨h1, h2⟩
      · cases h3
      · exact o.lent i k h1
    · rcases setAll_mu ks ms' s lms' k _ e with ⟨j, h1, h2⟩ | ⟨h1, h2⟩
      · have z : MAt (subC σ A C ks) F' H' (adr σ C (ks.getD j (.inl 0))) (fpr A C (ks.getD j (.inl 0))) m := o'.bor j m h2
        rw [kg j _ h1] at z
        exact z.cg (by rfl) (by rfl)
      · have hk : k < C.nb := by rw [← o.nb]; exact (List.getElem?_eq_some_iff.mp h1).1
        exact (o.bor k m h1).keepT st.s1 (stay (.inr k) (fun q z => by cases z; exact hk) h2)
    · obtain ⟨h1, h2⟩ := o.free i b hb
      exact ⟨keepN b h1 h2, st.s5 b h2⟩
    · have hm : k < s.mu.length := by rw [o.nb]; exact hk
      have ht := (o.bor k s.mu[k] (List.getElem?_eq_getElem hm)).there b hb
      exact ⟨keepN b (o.freeB k b hk hb).1 ht, (o.freeB k b hk hb).2⟩
    · rcases st.s2 b hb with z | z | z
      · exact .inl z
      · exact .inr (.inl z)
      · exact absurd z nofr
    · refine st.s4 b x hx nt nofr fun z => ?_
      rcases bor_in b z with q | q
      · exact n1 q
      · exact n2 q
    · obtain ⟨fp, h1, h2⟩ := f
      refine ⟨fp, h1.cg (by rfl) (by rfl), fun b hb => ?_⟩
      obtain ⟨k1, k2, k3, k4⟩ := h2 b hb
      have hn : H b = none := by
        rcases k4 with z | z
        · exact z
        · exact absurd z nofr
      refine ⟨k1, fun ⟨i, z⟩ => (o.free i b z).2 hn, fun ⟨q, hq, z⟩ => ?_, .inl hn⟩
      have hm : q < s.mu.length := by rw [o.nb]; exact hq
      exact (o.bor q s.mu[q] (List.getElem?_eq_getElem hm)).there b z hn
end
section
variable {X : Cx} {C : Fx} {W : WX} {e a tg : Expr} {es : List Expr} {pos : Pos} {fe : Stt → Res PV} {fo : Stt → Res MO} {fa : Stt → Res (List AV)}
theorem dl_nil : DL X C W [] lNil := ⟨_, pa_nil, fun F A H σ s Q o p => Post.now o p .nil⟩
theorem dl_pv (ha : DV X C W a fe) (hs : DL X C W es fa) (he : starEach (a :: es) X.env = (false, eval a X.env) :: starEach es X.env := by rfl) : DL X C W (a :: es) (lPv fe fa) := by
  obtain ⟨ta, pa, qa⟩ := ha.pr
  obtain ⟨tb, pb, qb⟩ := hs.pr
  refine ⟨_, pa_cons pa pb he, fun F A H σ s Q o p => ?_⟩
  refine qa F A H σ s _ o (p.seq fun q1 s1 v1 F1 A1 H1 _ o1 st1 r1 p1 => ?_)
  refine qb F1 A1 H1 σ s1 _ o1 (p1.seq fun q2 s2 v2 F2 A2 H2 _ o2 st2 r2 p2 => ?_)
  exact Post.now o2 p2 (.pv (r1.mono st2.s1) r2)
theorem dl_sl (i : Nat) {x : Str} {p : Pos} (hs : DL X C W es fa) (hN : X.N[i]? = some x := by rfl) (hv : Vis X.env.scope x := by first | exact Or.inl rfl | exact Or.inr (Or.inl rfl) | exact Or.inr (Or.inr rfl)) (hd : (x == ("__debug__" : Str)) = false := by decide)
    (hcd : (x == ("__classdict__" : Str)) = false := by decide) (he : starEach (.Name x p :: es) X.env = (false, eval (.Name x p) X.env) :: starEach es X.env := by rfl) : DL X C W (.Name x p :: es) (lSl i fa) := by
  obtain ⟨tb, pb, qb⟩ := hs.pr
  refine ⟨_, pa_cons (pe_var hN hv hd hcd) pb he, fun F A H σ s Q o p => ?_⟩
  have go : ∀ v, σ[i]? = some (some v) → Post C W (fun F _ vs ps => RAs C σ F vs ps) F A H σ ((fa s).bind fun q s2 => .ok (AV.sl i :: q) s2) Q → tCons (tVar i) tb σ H Q := fun v hv p => by
    refine ⟨v, hv, ?_⟩
    refine qb F A H σ s _ o (p.seq fun q2 s2 v2 F2 A2 H2 _ o2 st2 r2 p2 => ?_)
    exact Post.now o2 p2 (.sl hv r2)
  unfold lSl at p
  split at p
  · rename_i m e
    obtain ⟨q, h1, _⟩ := o.own i m e
    exact go _ h1 p
  · rename_i k e
    exact go _ (o.lent i k e).1 p
  · exact p.elim
/-- the callee's promise from the caller's wish -/
theorem call_post {n : Nat} {m : List SV → List MO → FRes} {F H : Hp} {A : Nat → List Addr} {σ : L2.St} {s : Stt} {avs : List AV} {vs : List V} {Q : VK} (hK : X.K = C.K) (hlen : avs.length = n) (o : OkF C F A H σ s) (r : RAs C σ F vs avs)
    (p : Post C W (RV C) F A H σ (match lowerA s avs [] with
  | none => Res.stuck
  | some (ps, ks) => if distinct ks = true then match getAll s ks with
    | none => Res.stuck
    | some ms => match m ps ms with
      | .ok v ms' => Res.ok v (setAll s ks ms')
      | .own (.lst l) ms' => Res.ok (.lst l) (setAll s ks ms')
      | .own _ _ => Res.stuck
      | .ex c v ms' => Res.ex c v (setAll s ks ms')
      | .stuck => Res.stuck
    else Res.stuck) Q) : spOf X.K C.cl n m vs H Q (fun c d H => W c d σ H) := by
  have hl : vs.length = avs.length := by
    clear p hlen
    induction r with
    | nil => rfl
    | pv _ _ ih => simpa using ih
    | sl _ _ ih => simpa using ih
  cases e1 : lowerA s avs [] with
  | none => rw [e1] at p; exact p.elim
  | some pk =>
    obtain ⟨ps, ks⟩ := pk
    rw [e1] at p
    simp only at p
    split at p
    · rename_i hd
      cases e2 : getAll s ks with
      | none => rw [e2] at p; exact p.elim
      | some ms =>
        rw [e2] at p
        simp only at p
        obtain ⟨c1, c2, c3⟩ := call_core o e1 hd e2 r
        refine ⟨hl.trans hlen, subC σ A C ks, F, ps, ms, hK.symm, rfl, c1, c2, ?_⟩
        cases e3 : m ps ms with
        | ok v ms' =>
          rw [e3] at p
          intro u F' H' o' st' r'
          obtain ⟨o2, st2, _⟩ := c3 F' H' ms' o' st'
          exact p u F' A H' o2 st2 (r'.cg (by rfl) (by rfl))
        | own mo ms' =>
          rw [e3] at p
          cases mo with
          | lst l =>
            intro q F' H' o' st' f'
            obtain ⟨o2, st2, f2⟩ := c3 F' H' ms' o' st'
            obtain ⟨F2, o3, st3, r3⟩ := o2.freeze st2 (f2 q _ f')
            exact p _ F2 A H' o3 st3 r3
          | _ => exact p.elim
        | ex c v ms' =>
          rw [e3] at p
          intro d F' H' o' st' x'
          obtain ⟨o2, st2, _⟩ := c3 F' H' ms' o' st'
          obtain ⟨u, h1, h2⟩ := x'
          exact p d F' A H' o2 st2 ⟨u, h1, h2.cg (by rfl) (by rfl)⟩
        | stuck => rw [e3] at p; exact p.elim
    · exact p.elim
end
end PL
/-! PL6: tests, choices, calls, comprehensions. -/
namespace PL
open PySem PySem.Spec PyProof.Rows L2
/-! ### tests -/
def tOf (f : Stt → Res PV) : Stt → Res Bool := fun s => (f s).bind fun p s1 => match p with
  | .bl b => .ok b s1
  | _ => .stuck
def pTru : PV → Option Bool
  | .non => some false
  | .bl b => some b
  | .int i => some (i != 0)
  | .str y => if y.length ≤ 16777216 then some ((y.length : Int) != 0) else none
  | .tup l => some (!l.isEmpty)
  | .lst l => some (!l.isEmpty)
  | .scr l => some (!l.isEmpty)
  | .ins _ _ => none
  | .fnp => none
  | .exi _ _ => none
  | .dcv _ _ => none
def tTru (f : Stt → Res PV) : Stt → Res Bool := fun s => (f s).bind fun p s1 => Res.opt s1 (pTru p)
def tNt (f : Stt → Res Bool) : Stt → Res Bool := fun s => (f s).bind fun p s1 => .ok (!p) s1
def tAn (f g : Stt → Res Bool) : Stt → Res Bool := fun s => (f s).bind fun p s1 => if p = true then g s1 else .ok false s1
def tOrr (f g : Stt → Res Bool) : Stt → Res Bool := fun s => (f s).bind fun p s1 => if p = true then .ok true s1 else g s1
def eIf (t : Stt → Res Bool) (f g : Stt → Res PV) : Stt → Res PV := fun s => (t s).bind fun p s1 => if p = true then f s1 else g s1
def eAn (f g : Stt → Res PV) : Stt → Res PV := fun s => (f s).bind fun p s1 => match pTru p with
  | some true => g s1
  | some false => .ok p s1
  | none => .stuck
def eOr (f g : Stt → Res PV) : Stt → Res PV := fun s => (f s).bind fun p s1 => match pTru p with
  | some true => .ok p s1
  | some false => g s1
  | none => .stuck
def eNt (f : Stt → Res PV) : Stt → Res PV := fun s => (f s).bind fun p s1 => match pTru p with
  | some b => .ok (.bl !b) s1
  | none => .stuck
def eChain (op op' : PV → PV → Option PV) (fa fb fc : Stt → Res PV) : Stt → Res PV := fun s => (fa s).bind fun p s1 => (fb s1).bind fun q s2 => match op p q with
  | some (.bl true) => (fc s2).bind fun r s3 => Res.opt s3 (op' q r)
  | some (.bl false) => .ok (.bl false) s2
  | _ => .stuck
theorem tru_of {C : Fx} {F H : Hp} {K : PySem.W.Frag} {v : V} {p : PV} {b : Bool} (hK : K = C.K) (sm : Same F H) (r : Rp C F v p) (h : pTru p = some b) : TruV K v H b := by
  subst hK
  cases r with
  | non => cases h; rfl
  | bl b => cases h; rfl
  | int i => cases h; rfl
  | str y =>
    have h : (if y.length ≤ 16777216 then some ((y.length : Int) != 0) else none) = some b := h
    split at h
    · rename_i hl; cases h; exact ⟨by rw [sizeLine_eq]; exact hl, rfl⟩
    · cases h
  | @tup a xs l h1 h2 =>
    cases h
    refine .inr (.inl ⟨xs, sqT_mono sm h1, ?_⟩)
    cases h2 <;> rfl
  | @lst a xs l h1 h2 =>
    cases h
    refine .inl ⟨xs, .inl (.inl (sm _ _ h1)), ?_⟩
    cases h2 <;> rfl
  | @scr a xs l h1 h2 =>
    cases h
    refine .inl ⟨xs, sm.seq h1, ?_⟩
    cases h2 <;> rfl
  | ins _ _ => cases h
  | fnp => cases h
  | exi _ _ _ => cases h
  | dcv _ _ _ => cases h
section
variable {X : Cx} {C : Fx} {W : WX} {a b c e tg : Expr} {es : List Expr} {pos : Pos} {fa fb fc fe : Stt → Res PV} {ta tb : Stt → Res Bool}
/-- a bool's value, as a test -/
theorem tOf_post {t : TE} {f : Stt → Res PV} (h : ∀ F A H σ s Q, OkF C F A H σ s → Post C W (RV C) F A H σ (f s) Q → t σ H Q) :
    ∀ F A H σ s Q, OkF C F A H σ s → Post C W RB F A H σ (tOf f s) Q → tTest t σ H Q := by
  intro F A H σ s Q o p
  refine h F A H σ s _ o (p.seq fun q s1 v F1 A1 H1 _ o1 st1 r1 p1 => ?_)
  cases r1 with
  | bl k => exact ⟨k, rfl, Post.now o1 p1 rfl⟩
  | _ => exact p1.elim
theorem dt_cmp {op : CmpOp} {r : R2} {f : PV → PV → Option PV} (ho : OpR X (compareOp op) r) (h : OpD C r f) (ha : DV X C W a fa) (hb : DV X C W b fb) (hm : behindInMarks op b = false) : DT X C W (.Compare a [op] [b] pos) (tOf (eBin f fa fb)) := by
  obtain ⟨t1, pa, qa⟩ := ha.pr
  obtain ⟨t2, pb, qb⟩ := hb.pr
  exact ⟨_, pt_cmpR ho pa pb hm, tOf_post (opPost h qa qb)⟩
theorem chain_post {r r' : R2} {f f' : PV → PV → Option PV} {t1 t2 t3 : TE} (h : OpD C r f) (h' : OpD C r' f') (qa : ∀ F A H σ s Q, OkF C F A H σ s → Post C W (RV C) F A H σ (fa s) Q → t1 σ H Q) (qb : ∀ F A H σ s Q, OkF C F A H σ s → Post C W (RV C) F A H σ (fb s) Q → t2 σ H Q) (qc : ∀ F A H σ s Q, OkF C F A H σ s → Post C W (RV C) F A H σ (fc s) Q → t3 σ H Q) :
    ∀ F A H σ s Q, OkF C F A H σ s → Post C W (RV C) F A H σ (eChain f f' fa fb fc s) Q → tChain r r' t1 t2 t3 σ H Q := by
  intro F A H σ s Q o p
  refine qa F A H σ s _ o (p.seq fun q1 s1 v1 F1 A1 H1 _ o1 st1 r1 p1 => ?_)
  refine qb F1 A1 H1 σ s1 _ o1 (p1.seq fun q2 s2 v2 F2 A2 H2 _ o2 st2 r2 p2 => ?_)
  cases e : f q1 q2 with
  | none => rw [e] at p2; exact p2.elim
  | some z =>
    rw [e] at p2
    cases z with
    | bl k =>
      refine h F2 A2 H2 σ s2 v1 v2 q1 q2 _ _ o2 (r1.mono st2.s1) r2 e fun v3 F3 A3 H3 o3 st3 r3 => ?_
      cases r3
      refine ⟨k, rfl, ?_⟩
      cases k with
      | false =>
        refine iteF ?_
        exact p2 _ F3 A3 H3 o3 st3 (.bl false)
      | true =>
        refine iteT ?_
        refine qc F3 A3 H3 σ s2 _ o3 ((p2.after st3).seq fun q4 s4 v4 F4 A4 H4 _ o4 st4 r4 p4 => ?_)
        obtain ⟨z, e4, k4⟩ := Post.opt p4
        exact h' F4 A4 H4 σ s4 v2 v4 q2 q4 z Q o4 (r2.mono (st3.s1.trans st4.s1)) r4 e4 k4
    | _ => exact p2.elim
theorem dv_chain {op op' : CmpOp} {r r' : R2} {f f' : PV → PV → Option PV} (ho : OpR X (compareOp op) r) (ho' : OpR X (compareOp op') r') (h : OpD C r f) (h' : OpD C r' f') (ha : DV X C W a fa) (hb : DV X C W b fb) (hc : DV X C W c fc)
    (hm : lastMarks [op, op'] [b, c] = false := by with_unfolding_all rfl) : DV X C W (.Compare a [op, op'] [b, c] pos) (eChain f f' fa fb fc) := by
  obtain ⟨t1, pa, qa⟩ := ha.pr
  obtain ⟨t2, pb, qb⟩ := hb.pr
  obtain ⟨t3, pc, qc⟩ := hc.pr
  exact ⟨_, pe_chain ho ho' pa pb pc hm, chain_post h h' qa qb qc⟩
theorem dt_chain {op op' : CmpOp} {r r' : R2} {f f' : PV → PV → Option PV} (ho : OpR X (compareOp op) r) (ho' : OpR X (compareOp op') r') (h : OpD C r f) (h' : OpD C r' f') (ha : DV X C W a fa) (hb : DV X C W b fb) (hc : DV X C W c fc)
    (hm : lastMarks [op, op'] [b, c] = false := by with_unfolding_all rfl) : DT X C W (.Compare a [op, op'] [b, c] pos) (tOf (eChain f f' fa fb fc)) := by
  obtain ⟨t1, pa, qa⟩ := ha.pr
  obtain ⟨t2, pb, qb⟩ := hb.pr
  obtain ⟨t3, pc, qc⟩ := hc.pr
  exact ⟨_, pt_chain ho ho' pa pb pc hm, tOf_post (chain_post h h' qa qb qc)⟩
theorem dt_tru (hK : X.K = C.K) (ha : DV X C W a fa) (he : ∀ whole, isTrue a X.env whole = (do let v ← whole; standAt a.pos; holding [v] (truthy v)) := by intro _; rfl) : DT X C W a (tTru fa) := by
  obtain ⟨t1, pa, qa⟩ := ha.pr
  refine ⟨_, pt_truth pa he, fun F A H σ s Q o p => ?_⟩
  refine qa F A H σ s _ o (p.seq fun q s1 v F1 A1 H1 _ o1 st1 r1 p1 => ?_)
  obtain ⟨z, e, k⟩ := Post.opt p1
  exact ⟨z, tru_of hK o1.sub r1 e, k z F1 A1 H1 o1 .refl rfl⟩
theorem dt_not (ha : DT X C W a ta) : DT X C W (.UnaryOp .Not a pos) (tNt ta) := by
  obtain ⟨t1, pa, qa⟩ := ha.pr
  refine ⟨_, pt_not pa, fun F A H σ s Q o p => ?_⟩
  refine qa F A H σ s _ o (p.seq fun q s1 v F1 A1 H1 _ o1 st1 r1 p1 => ?_)
  obtain rfl : v = q := r1
  exact Post.now o1 p1 rfl
structure DW (X : Cx) (C : Fx) (W : WX) (e : Expr) (f : Stt → Res Bool) : Prop where
  pr : ∃ te, PW X e te ∧ ∀ F A H σ s Q, OkF C F A H σ s → Post C W RB F A H σ (f s) Q → te σ H Q
theorem dw_and1 (ha : DT X C W a ta) : DW X C W (.BoolOp .And [a] pos) ta := let ⟨t, p, q⟩ := ha.pr; ⟨t, pw_and1 p, q⟩
theorem dw_or1 (ha : DT X C W a ta) : DW X C W (.BoolOp .Or [a] pos) ta := let ⟨t, p, q⟩ := ha.pr; ⟨t, pw_or1 p, q⟩
theorem dw_and (ha : DT X C W a ta) (hb : DW X C W (.BoolOp .And (b :: es) pos) tb) : DW X C W (.BoolOp .And (a :: b :: es) pos) (tAn ta tb) := by
  obtain ⟨t1, pa, qa⟩ := ha.pr
  obtain ⟨t2, pb, qb⟩ := hb.pr
  refine ⟨_, pw_and pa pb, fun F A H σ s Q o p => ?_⟩
  refine qa F A H σ s _ o (p.seq fun q s1 v F1 A1 H1 _ o1 st1 r1 p1 => ?_)
  obtain rfl : v = q := r1
  cases v with
  | true => exact iteT (qb F1 A1 H1 σ s1 Q o1 (by simpa using p1))
  | false => exact iteF (Post.now (a := false) o1 (by simpa using p1) rfl)
theorem dw_or (ha : DT X C W a ta) (hb : DW X C W (.BoolOp .Or (b :: es) pos) tb) : DW X C W (.BoolOp .Or (a :: b :: es) pos) (tOrr ta tb) := by
  obtain ⟨t1, pa, qa⟩ := ha.pr
  obtain ⟨t2, pb, qb⟩ := hb.pr
  refine ⟨_, pw_or pa pb, fun F A H σ s Q o p => ?_⟩
  refine qa F A H σ s _ o (p.seq fun q s1 v F1 A1 H1 _ o1 st1 r1 p1 => ?_)
  obtain rfl : v = q := r1
  cases v with
  | true => exact iteT (Post.now (a := true) o1 (by simpa using p1) rfl)
  | false => exact iteF (qb F1 A1 H1 σ s1 Q o1 (by simpa using p1))
theorem dt_of (h : DW X C W a ta) : DT X C W a ta := let ⟨t, p, q⟩ := h.pr; ⟨t, p.pt, q⟩
/-! ### values by truth -/
theorem dv_one {op} (h : DV X C W a fa) : DV X C W (.BoolOp op [a] pos) fa := let ⟨t, p, q⟩ := h.pr; ⟨t, pe_one p, q⟩
theorem dv_and (hK : X.K = C.K) (ha : DV X C W a fa) (hb : DV X C W (.BoolOp .And (b :: es) pos) fb) : DV X C W (.BoolOp .And (a :: b :: es) pos) (eAn fa fb) := by
  obtain ⟨t1, pa, qa⟩ := ha.pr
  obtain ⟨t2, pb, qb⟩ := hb.pr
  refine ⟨_, pe_andT pa pb, fun F A H σ s Q o p => ?_⟩
  refine qa F A H σ s _ o (p.seq fun q s1 v F1 A1 H1 _ o1 st1 r1 p1 => ?_)
  cases e : pTru q with
  | none => rw [e] at p1; exact p1.elim
  | some k =>
    rw [e] at p1
    refine ⟨k, tru_of hK o1.sub r1 e, ?_⟩
    cases k with
    | true => exact iteT (qb F1 A1 H1 σ s1 Q o1 p1)
    | false => exact iteF (Post.now o1 p1 r1)
theorem dv_if (hc : DT X C W c ta) (ha : DV X C W a fa) (hb : DV X C W b fb) : DV X C W (.IfExp c a b pos) (eIf ta fa fb) := by
  obtain ⟨t0, pc, qc⟩ := hc.pr
  obtain ⟨t1, pa, qa⟩ := ha.pr
  obtain ⟨t2, pb, qb⟩ := hb.pr
  refine ⟨_, pe_ifExp pc pa pb, fun F A H σ s Q o p => ?_⟩
  refine qc F A H σ s _ o (p.seq fun q s1 v F1 A1 H1 _ o1 st1 r1 p1 => ?_)
  obtain rfl : v = q := r1
  cases v with
  | true => exact iteT (qa F1 A1 H1 σ s1 Q o1 (by simpa using p1))
  | false => exact iteF (qb F1 A1 H1 σ s1 Q o1 (by simpa using p1))
end
/-! ### calls of defs -/
section
variable {X : Cx} {C : Fx} {W : WX} {a b c e tg : Expr} {es : List Expr} {pos p : Pos} {fa : Stt → Res (List AV)} {f : Addr} {fd : FuncData} {ps : List Str} {k n : Nat} {m : List SV → List MO → FRes} {x : Str}
/-- the number of arguments is right -/
def avN (n : Nat) (fa : Stt → Res (List AV)) : Stt → Res (List AV) := fun s => (fa s).bind fun l s1 => if l.length = n then .ok l s1 else .stuck
theorem dv_call (F : FnP X.prog X.w X.K X.mg X.base C.cl k f fd ps m) (hr : Room k X.A) (gu : X.A.guards = some []) (tk : L2N.Takes X W) (hK : X.K = C.K) (hm : X.mg x = some (.ref f)) (hk : PySem.W.keepIn X.K (.ref f) = true) (hb : Binds X.K fd ps []) (ha : DL X C W (a :: es) fa)
    (hg : Gl X x := by rfl) (hdb : (x == ("__debug__" : Str)) = false := by decide) (he : starEach (a :: es) X.env = (false, eval a X.env) :: starEach es X.env := by rfl) (hpl : (backTo pos (starEach es X.env)).any (·.1) = false := by rfl) (hnn : ps.length = n := by rfl) :
    DV X C W (.Call (.Name x p) (a :: es) [] pos) (eCall m (avN n fa)) := by
  subst hnn
  obtain ⟨ta, pa, qa⟩ := ha.pr
  refine ⟨_, pe_callG (E := fun σ c d H => W c d σ H) F hr gu hg hm hk hb .nil (fun σ => L2N.passAt tk σ) pa hdb he hpl, fun F A H σ s Q o pp => ?_⟩
  show ta σ H fun vs H1 => spOf X.K C.cl ps.length m (vs ++ []) H1 Q (fun c d H => W c d σ H)
  unfold eCall avN at pp
  refine qa F A H σ s _ o ?_
  cases hf : fa s with
  | ok avs s1 =>
    rw [hf] at pp
    simp only [Res.bind] at pp
    intro vs F1 A1 H1 o1 st1 r1
    rw [List.append_nil]
    by_cases hl : avs.length = ps.length
    · rw [if_pos hl] at pp
      exact call_post hK hl o1 r1 (Post.after st1 pp)
    · rw [if_neg hl] at pp; exact pp.elim
  | ex c v s1 => rw [hf] at pp; exact pp
  | stuck => rw [hf] at pp; exact pp
/-- as call_post, the result a fresh object -/
theorem call_postO {F H : Hp} {A : Nat → List Addr} {σ : L2.St} {s : Stt} {avs : List AV} {vs : List V} {Q : VK} (hK : X.K = C.K) (hlen : avs.length = n) (o : OkF C F A H σ s) (r : RAs C σ F vs avs)
    (p : PostO C W F A H σ (match lowerA s avs [] with
  | none => Res.stuck
  | some (ps, ks) => if distinct ks = true then match getAll s ks with
    | none => Res.stuck
    | some ms => match m ps ms with
      | .ok _ _ => Res.stuck
      | .own o ms' => Res.ok o (setAll s ks ms')
      | .ex c v ms' => Res.ex c v (setAll s ks ms')
      | .stuck => Res.stuck
    else Res.stuck) Q) : spOf X.K C.cl n m vs H Q (fun c d H => W c d σ H) := by
  have hl : vs.length = avs.length := by
    clear p hlen
    induction r with
    | nil => rfl
    | pv _ _ ih => simpa using ih
    | sl _ _ ih => simpa using ih
  cases e1 : lowerA s avs [] with
  | none => rw [e1] at p; exact p.elim
  | some pk =>
    obtain ⟨ps, ks⟩ := pk
    rw [e1] at p
    simp only at p
    split at p
    · rename_i hd
      cases e2 : getAll s ks with
      | none => rw [e2] at p; exact p.elim
      | some ms =>
        rw [e2] at p
        simp only at p
        obtain ⟨c1, c2, c3⟩ := call_core o e1 hd e2 r
        refine ⟨hl.trans hlen, subC σ A C ks, F, ps, ms, hK.symm, rfl, c1, c2, ?_⟩
        cases e3 : m ps ms with
        | ok v ms' => rw [e3] at p; exact p.elim
        | own mo ms' =>
          rw [e3] at p
          intro q F' H' o' st' f'
          obtain ⟨o2, st2, f2⟩ := c3 F' H' ms' o' st'
          exact p q F' A H' o2 st2 (f2 q _ f')
        | ex c v ms' =>
          rw [e3] at p
          intro d F' H' o' st' x'
          obtain ⟨o2, st2, _⟩ := c3 F' H' ms' o' st'
          obtain ⟨u, h1, h2⟩ := x'
          exact p d F' A H' o2 st2 ⟨u, h1, h2.cg (by rfl) (by rfl)⟩
        | stuck => rw [e3] at p; exact p.elim
    · exact p.elim
theorem do_call (F : FnP X.prog X.w X.K X.mg X.base C.cl k f fd ps m) (hr : Room k X.A) (gu : X.A.guards = some []) (tk : L2N.Takes X W) (hK : X.K = C.K) (hm : X.mg x = some (.ref f)) (hk : PySem.W.keepIn X.K (.ref f) = true) (hb : Binds X.K fd ps []) (ha : DL X C W (a :: es) fa)
    (hg : Gl X x := by rfl) (hdb : (x == ("__debug__" : Str)) = false := by decide) (he : starEach (a :: es) X.env = (false, eval a X.env) :: starEach es X.env := by rfl) (hpl : (backTo pos (starEach es X.env)).any (·.1) = false := by rfl) (hnn : ps.length = n := by rfl) :
    DO X C W (.Call (.Name x p) (a :: es) [] pos) (oCall m (avN n fa)) := by
  subst hnn
  obtain ⟨ta, pa, qa⟩ := ha.pr
  refine ⟨_, pe_callG (E := fun σ c d H => W c d σ H) F hr gu hg hm hk hb .nil (fun σ => L2N.passAt tk σ) pa hdb he hpl, fun F A H σ s Q o pp => ?_⟩
  show ta σ H fun vs H1 => spOf X.K C.cl ps.length m (vs ++ []) H1 Q (fun c d H => W c d σ H)
  unfold oCall avN at pp
  refine qa F A H σ s _ o ?_
  cases hf : fa s with
  | ok avs s1 =>
    rw [hf] at pp
    simp only [Res.bind] at pp
    intro vs F1 A1 H1 o1 st1 r1
    rw [List.append_nil]
    by_cases hl : avs.length = ps.length
    · rw [if_pos hl] at pp
      exact call_postO hK hl o1 r1 (PostO.after st1 pp)
    · rw [if_neg hl] at pp; exact pp.elim
  | ex c v s1 => rw [hf] at pp; exact pp
  | stuck => rw [hf] at pp; exact pp
end
end PL
/-! PL7: list comprehensions. -/
namespace PL
open PySem PySem.Spec PyProof.Rows L2
def wipeR (ro : List (Option SV)) : List Nat → List (Option SV)
  | [] => ro
  | v :: vs => (wipeR ro vs).set v none
def wipeS (vs : List Nat) (s : Stt) : Stt := ⟨wipeR s.ro vs, s.mu⟩
def keepV : Option (Option SV) → Option SV
  | some (some (.val p)) => some (.val p)
  | _ => none
def backR (r0 ro : List (Option SV)) : List Nat → List (Option SV)
  | [] => ro
  | v :: vs => (backR r0 ro vs).set v (keepV r0[v]?)
/-- behind the block: the block's own names are as they were -/
def backS (vs : List Nat) (s0 s : Stt) : Stt := ⟨backR s0.ro s.ro vs, s.mu⟩
theorem wipeR_len (ro : List (Option SV)) : ∀ vs, (wipeR ro vs).length = ro.length
  | [] => rfl
  | v :: vs => by unfold wipeR; rw [List.length_set, wipeR_len ro vs]
theorem backR_len (r0 ro : List (Option SV)) : ∀ vs, (backR r0 ro vs).length = ro.length
  | [] => rfl
  | v :: vs => by unfold backR; rw [List.length_set, backR_len r0 ro vs]
theorem wipeR_some {ro : List (Option SV)} {i : Nat} {x : SV} : ∀ {vs : List Nat}, (wipeR ro vs)[i]? = some (some x) → ro[i]? = some (some x) ∧ i ∉ vs
  | [], h => ⟨h, by simp⟩
  | v :: vs, h => by
    unfold wipeR at h
    by_cases hi : v = i
    · subst hi
      have hl : v < (wipeR ro vs).length := by
        have := (List.getElem?_eq_some_iff.mp h).1
        rwa [List.length_set] at this
      rw [List.getElem?_set_self hl] at h; cases h
    · rw [List.getElem?_set_ne hi] at h
      obtain ⟨h1, h2⟩ := wipeR_some h
      exact ⟨h1, fun z => (List.mem_cons.mp z).elim (fun e => hi e.symm) h2⟩
theorem wipe_out' {σ : L2.St} {i : Nat} : ∀ {vs : List Nat}, i ∉ vs → (L2.wipe σ vs)[i]? = σ[i]?
  | [], _ => rfl
  | v :: vs, h => by
    unfold L2.wipe
    rw [List.getElem?_set_ne (fun e => h (by rw [e]; exact List.mem_cons_self))]
    exact wipe_out' fun z => h (List.mem_cons_of_mem _ z)
theorem backR_some {r0 ro : List (Option SV)} {i : Nat} {x : SV} : ∀ {vs : List Nat}, (backR r0 ro vs)[i]? = some (some x) → (i ∈ vs ∧ ∃ p, x = .val p ∧ r0[i]? = some (some (.val p))) ∨ (i ∉ vs ∧ ro[i]? = some (some x))
  | [], h => .inr ⟨by simp, h⟩
  | v :: vs, h => by
    unfold backR at h
    by_cases hi : v = i
    · subst hi
      have hl : v < (backR r0 ro vs).length := by
        have := (List.getElem?_eq_some_iff.mp h).1
        rwa [List.length_set] at this
      rw [List.getElem?_set_self hl] at h
      have h : keepV r0[v]? = some x := Option.some.inj h
      unfold keepV at h
      split at h
      · rename_i p e
        cases h
        exact .inl ⟨List.mem_cons_self, p, rfl, e⟩
      · cases h
    · rw [List.getElem?_set_ne hi] at h
      rcases backR_some h with ⟨h1, h2⟩ | ⟨h1, h2⟩
      · exact .inl ⟨List.mem_cons_of_mem _ h1, h2⟩
      · exact .inr ⟨fun z => (List.mem_cons.mp z).elim (fun e => hi e.symm) h1, h2⟩
section
variable {C : Fx} {F H : Hp} {A : Nat → List Addr} {σ : L2.St} {s : Stt}
theorem OkF.wipe (o : OkF C F A H σ s) (vs : List Nat) : OkF C F A H (L2.wipe σ vs) (wipeS vs s) :=
  ⟨by show _ = (wipeR s.ro vs).length; rw [L2.wipe_length, wipeR_len]; exact o.len, o.sub, fun i v e => by
      obtain ⟨h1, h2⟩ := wipeR_some e
      obtain ⟨u, h3, h4⟩ := o.val i v h1
      exact ⟨u, (wipe_out' h2).trans h3, h4⟩, fun i m e => by
      obtain ⟨h1, h2⟩ := wipeR_some e
      obtain ⟨u, h3, h4⟩ := o.own i m h1
      exact ⟨u, (wipe_out' h2).trans h3, h4⟩, o.nb, fun i k e => by
      obtain ⟨h1, h2⟩ := wipeR_some e
      obtain ⟨h3, h4⟩ := o.lent i k h1
      exact ⟨(wipe_out' h2).trans h3, h4⟩, o.bor, o.free, o.dis, o.freeB, o.disB, o.ext⟩
theorem OkF.back {F2 H2 : Hp} {A2 : Nat → List Addr} {s2 : Stt} {vs : List Nat} (o : OkF C F A H σ s) (st : Step C F A H F2 A2 H2) (o2 : OkF C F2 A2 H2 (L2.wipe σ vs) s2) : OkF C F2 A2 H2 σ (backS vs s s2) :=
  ⟨by show _ = (backR s.ro s2.ro vs).length; rw [backR_len, ← o2.len, L2.wipe_length], o2.sub, fun i v e => by
      rcases backR_some e with ⟨h1, p, e1, h2⟩ | ⟨h1, h2⟩
      · cases e1
        obtain ⟨u, h3, h4⟩ := o.val i v h2
        exact ⟨u, h3, h4.mono st.s1⟩
      · obtain ⟨u, h3, h4⟩ := o2.val i v h2
        exact ⟨u, (wipe_out' h1).symm.trans h3, h4⟩, fun i m e => by
      rcases backR_some e with ⟨h1, p, e1, h2⟩ | ⟨h1, h2⟩
      · cases e1
      · obtain ⟨u, h3, h4⟩ := o2.own i m h2
        exact ⟨u, (wipe_out' h1).symm.trans h3, h4⟩, o2.nb, fun i k e => by
      rcases backR_some e with ⟨h1, p, e1, h2⟩ | ⟨h1, h2⟩
      · cases e1
      · obtain ⟨h3, h4⟩ := o2.lent i k h2
        exact ⟨(wipe_out' h1).symm.trans h3, h4⟩, o2.bor, o2.free, o2.dis, o2.freeB, o2.disB, o2.ext⟩
/-- an object that is not the state's own is changed -/
theorem OkF.other {D : Addr} {x : HO} (o : OkF C F A H σ s) (h1 : F D = none) (h2 : ¬ OwnA A D) (h3 : ¬ Bor C D) (h4 : H D ≠ none) (h5 : ∀ o, H D = some o → ¬ Tbx o) : OkF C F A (upd H D x) σ s :=
  ⟨o.len, fun b u e => by rw [upd_ne (ne_of_none e h1)]; exact o.sub b u e, o.val, fun i m e => by
      obtain ⟨p, q1, q2⟩ := o.own i m e
      exact ⟨p, q1, q2.keep (fun _ _ h => h) fun b u hb hu => by rw [upd_ne (show b ≠ D from fun z => h2 ⟨i, z ▸ hb⟩)]; exact hu⟩, o.nb, o.lent, fun k m e => by
      have hk : k < C.nb := by rw [← o.nb]; exact (List.getElem?_eq_some_iff.mp e).1
      exact (o.bor k m e).keep (fun _ _ h => h) fun b u hb hu => by rw [upd_ne (show b ≠ D from fun z => h3 ⟨k, hk, z ▸ hb⟩)]; exact hu, fun i b hb => by
      obtain ⟨q1, q2⟩ := o.free i b hb
      exact ⟨q1, by rw [upd_ne (show b ≠ D from fun z => h2 ⟨i, z ▸ hb⟩)]; exact q2⟩, o.dis, o.freeB, o.disB, ⟨o.ext.1, o.ext.2.off0 fun b u t e => by rw [upd_ne (show b ≠ D from fun z => h5 u (z ▸ e) t)]; exact e⟩⟩
theorem Step.other {F0 H0 : Hp} {A0 : Nat → List Addr} {D : Addr} {x : HO} (st : Step C F0 A0 H0 F A H) (h : H0 D = none) : Step C F0 A0 H0 F A (upd H D x) :=
  ⟨st.s1, st.s2, st.s3, fun b u e nt n1 n2 => by rw [upd_ne (ne_of_none e h)]; exact st.s4 b u e nt n1 n2, fun b e => by
    by_cases hb : b = D
    · subst hb; rw [upd_same]; simp
    · rw [upd_ne hb]; exact st.s5 b e⟩
/-- a thing that is not the state's own stays so, and as it is -/
structure Aside (C : Fx) (F : Hp) (A : Nat → List Addr) (H : Hp) (D : Addr) (x : HO) : Prop where
  a1 : F D = none
  a2 : ¬ OwnA A D
  a3 : ¬ Bor C D
  a4 : H D = some x
theorem Aside.step {F' H' : Hp} {A' : Nat → List Addr} {D : Addr} {x : HO} (a : Aside C F A H D x) (st : Step C F A H F' A' H') (nt : ∀ ps, x ≠ .tbl ps := by intro ps h; cases h) : Aside C F' A' H' D x where
  a1 := by
    cases e : F' D with
    | none => rfl
    | some y =>
      rcases st.s2 D (by rw [e]; simp) with z | z | z
      · exact absurd a.a1 z
      · rw [a.a4] at z; cases z
      · exact absurd z a.a2
  a2 := fun z => by
    rcases st.s3 D z with q | q
    · exact a.a2 q
    · rw [a.a4] at q; cases q
  a3 := a.a3
  a4 := st.s4 D x a.a4 nt a.a2 a.a3
end
theorem SameOut.wipe {vs : List Nat} {σ σ' : L2.St} (h : SameOut (fun i => decide (i ∈ vs)) σ σ') : L2.wipe σ' vs = L2.wipe σ vs := by
  have key : ∀ (us : List Nat) (i : Nat), (i ∈ us ∨ σ'[i]? = σ[i]?) → (L2.wipe σ' us)[i]? = (L2.wipe σ us)[i]? := by
    intro us
    induction us with
    | nil => intro i h; rcases h with z | z
             · cases z
             · exact z
    | cons v us ih =>
      intro i hi
      unfold L2.wipe
      by_cases e : v = i
      · subst e
        by_cases hl : v < σ.length
        · rw [List.getElem?_set_self (by rw [L2.wipe_length, h.1]; exact hl), List.getElem?_set_self (by rw [L2.wipe_length]; exact hl)]
        · rw [List.getElem?_eq_none (by rw [List.length_set, L2.wipe_length, h.1]; exact Nat.le_of_not_lt hl), List.getElem?_eq_none (by rw [List.length_set, L2.wipe_length]; exact Nat.le_of_not_lt hl)]
      · rw [List.getElem?_set_ne e, List.getElem?_set_ne e]
        refine ih i ?_
        rcases hi with z | z
        · rcases List.mem_cons.mp z with q | q
          · exact absurd q.symm e
          · exact .inl q
        · exact .inr z
  refine List.ext_getElem? fun i => key vs i ?_
  by_cases hm : i ∈ vs
  · exact .inl hm
  · exact .inr (h.2 i (decide_eq_false hm))
def compL (vs : List Nat) (a : PV → Stt → Option Stt) (ft : Stt → Res Bool) (fe : Stt → Res PV) : List PV → List PV → Stt → Res (List PV)
  | [], acc, s => .ok acc s
  | p :: r, acc, s => match a p s with
    | none => .stuck
    | some s1 => (ft s1).bind fun b s2 => if b = true then (fe s2).bind fun y s3 => if acc.length < 16777216 then compL vs a ft fe r (acc ++ [y]) (wipeS vs s3) else .stuck
      else compL vs a ft fe r acc (wipeS vs s2)
def noEx {α : Type} : Res α → Res α
  | .ok a s => .ok a s
  | _ => .stuck
def oComp (vs : List Nat) (fi : Stt → Res (List PV)) (a : PV → Stt → Option Stt) (ft : Stt → Res Bool) (fe : Stt → Res PV) : Stt → Res MO := fun s => (fi s).bind fun l s1 => (noEx (compL vs a ft fe l [] (wipeS vs s1))).bind fun acc s2 => .ok (.lst acc) (backS vs s1 s2)
theorem compL_cons (vs : List Nat) (a : PV → Stt → Option Stt) (ft : Stt → Res Bool) (fe : Stt → Res PV) (p : PV) (r acc : List PV) (s s1 : Stt) (h : a p s = some s1) : compL vs a ft fe (p :: r) acc s = (ft s1).bind fun b s2 => if b = true then (fe s2).bind fun y s3 => if acc.length < 16777216 then compL vs a ft fe r (acc ++ [y]) (wipeS vs s3) else .stuck
      else compL vs a ft fe r acc (wipeS vs s2) := by
  show (match a p s with | none => _ | some s1 => _) = _
  rw [h]
def tYesD : Stt → Res Bool := fun s => .ok true s
abbrev W0 : WX := fun _ _ _ _ => False
section
variable {C : Fx} {W : WX}
/-- the reading of a comprehension, from those of its parts -/
theorem lc_den {ti : TI} {tg : TG} {tt : TT} {te : TE} {vs : List Nat} {fi : Stt → Res (List PV)} {a : PV → Stt → Option Stt} {ft : Stt → Res Bool} {fe : Stt → Res PV}
    (qi : ∀ F A H σ s (Q : It → Hp → Prop), OkF C F A H σ s → Post C W (RI C) F A H σ (fi s) Q → ti σ H Q)
    (qg : ∀ F A H σ s x p s' Q, OkF C F A H σ s → Rp C F x p → a p s = some s' → (∀ σ' F' A' H', OkF C F' A' H' σ' s' → Step C F A H F' A' H' → SameOut (fun i => decide (i ∈ vs)) σ σ' → Q σ' H') → tg x σ H Q)
    (qt : ∀ F A H σ s Q, OkF C F A H σ s → Post C W0 RB F A H σ (ft s) Q → tt σ H Q)
    (qe : ∀ F A H σ s Q, OkF C F A H σ s → Post C W0 (RV C) F A H σ (fe s) Q → te σ H Q) :
    ∀ F A H σ s Q, OkF C F A H σ s → PostO C W F A H σ (oComp vs fi a ft fe s) Q → tLc ti tg tt te vs σ H Q := by
  intro F A H σ s Q o p
  unfold oComp at p
  refine qi F A H σ s _ o (PostO.seq p fun l s1 J F1 A1 H1 _ o1 st1 r1 p1 => ?_)
  obtain ⟨G, Y, w, hG, hY⟩ := r1
  intro D hD
  -- the list of the results
  have hF1 : F1 D = none := o1.sub.free hD
  have nA1 : ¬ OwnA A1 D := fun ⟨i, z⟩ => (o1.free i D z).2 hD
  have nB1 : ¬ Bor C D := fun ⟨q, hq, z⟩ => by
    have hm : q < s1.mu.length := by rw [o1.nb]; exact hq
    exact (o1.bor q s1.mu[q] (List.getElem?_eq_getElem hm)).there D z hD
  obtain ⟨R, hR⟩ : ∃ R, noEx (compL vs a ft fe l [] (wipeS vs s1)) = R := ⟨_, rfl⟩
  rw [hR] at p1
  have key : ∃ acc0 s0, compL vs a ft fe l [] (wipeS vs s1) = .ok acc0 s0 ∧ PostO C W F1 A1 H1 σ (.ok (.lst acc0) (backS vs s1 s0)) Q := by
    cases e : compL vs a ft fe l [] (wipeS vs s1) with
    | ok acc0 s0 => rw [e] at hR; subst hR; exact ⟨acc0, s0, rfl, p1⟩
    | ex c v s0 => rw [e] at hR; subst hR; exact p1.elim
    | stuck => rw [e] at hR; subst hR; exact p1.elim
  obtain ⟨acc0, s0, hc0, pf⟩ := key
  refine lc_it w (fun i H2 => ∃ F2 A2 s2 acc xs, OkF C F2 A2 H2 (L2.wipe σ vs) s2 ∧ Step C F1 A1 H1 F2 A2 H2 ∧ Aside C F2 A2 H2 D (.lst xs) ∧ Rps C F2 xs acc ∧ compL vs a ft fe (l.drop i) acc s2 = .ok acc0 s0) ?_ (fun i H2 _ ⟨F2, A2, s2, acc, xs, o2, st2, _⟩ => hG H2 (st2.s1.trans o2.sub)) ?_ ?_
  · refine ⟨F1, A1, wipeS vs s1, [], [], ?_, ?_, ⟨hF1, nA1, nB1, upd_same⟩, .nil, by simpa using hc0⟩
    · have := (o1.fresh (u := .lst []) (m := .lst []) hD ⟨rfl, [], upd_same, .nil⟩).1
      exact this.wipe vs
    · exact (Step.refl).other hD
  · rintro i x H2 H3 hi ⟨F2, A2, s2, acc, xs, o2, st2, as2, ra2, hc⟩ y
    have hl : l[i]? = some l[i] := List.getElem?_eq_getElem hi
    obtain ⟨F3, o3, st3, r3⟩ := hY i F2 A2 H2 _ s2 x H3 l[i] o2 st2.s1 y hl
    rw [List.drop_eq_getElem_cons hi] at hc
    cases ea : a l[i] s2 with
    | none =>
      have z : compL vs a ft fe (l[i] :: l.drop (i + 1)) acc s2 = .stuck := by
        show (match a l[i] s2 with | none => _ | some s1 => _) = _
        rw [ea]
      rw [z] at hc; cases hc
    | some s3 =>
      rw [compL_cons _ _ _ _ _ _ _ _ _ ea] at hc
      refine qg F3 A2 H3 _ s2 x l[i] s3 _ o3 r3 ea fun σ4 F4 A4 H4 o4 st4 so => ?_
      have ww : L2.wipe σ4 vs = L2.wipe σ vs := by
        have e1 := so.wipe
        have e2 : L2.wipe (L2.wipe σ vs) vs = L2.wipe σ vs := by
          refine SameOut.wipe ⟨L2.wipe_length _ _, fun i h => wipe_out' (of_decide_eq_false h)⟩
        exact e1.trans e2
      refine ⟨ww, ?_⟩
      cases hb : ft s3 with
      | ex c v s5 => rw [hb] at hc; cases hc
      | stuck => rw [hb] at hc; cases hc
      | ok b s5 =>
        refine qt F4 A4 H4 σ4 s3 _ o4 ?_
        rw [hb] at hc ⊢
        intro b' F5 A5 H5 o5 st5 rb
        obtain rfl : b' = b := rb
        have sA := ((st2.trans st3).trans st4).trans st5
        have as5 := ((as2.step st3).step st4).step st5
        cases b' with
        | false =>
          refine iteF ?_
          have hc : compL vs a ft fe (l.drop (i + 1)) acc (wipeS vs s5) = .ok acc0 s0 := by simpa using hc
          exact ⟨F5, A5, wipeS vs s5, acc, xs, by rw [← ww]; exact o5.wipe vs, sA, as5, ra2.mono ((st3.s1.trans st4.s1).trans st5.s1), hc⟩
        | true =>
          refine iteT ?_
          have hc : ((fe s5).bind fun y s3 => if acc.length < 16777216 then compL vs a ft fe (l.drop (i + 1)) (acc ++ [y]) (wipeS vs s3) else .stuck) = .ok acc0 s0 := by simpa using hc
          cases hy : fe s5 with
          | ex c v s6 => rw [hy] at hc; cases hc
          | stuck => rw [hy] at hc; cases hc
          | ok yv s6 =>
            refine qe F5 A5 H5 σ4 s5 _ o5 ?_
            rw [hy] at hc ⊢
            intro u F6 A6 H6 o6 st6 r6
            have as6 := as5.step st6
            simp only [Res.bind] at hc
            by_cases hlen : acc.length < 16777216
            · rw [if_pos hlen] at hc
              have ra6 : Rps C F6 xs acc := ra2.mono (((st3.s1.trans st4.s1).trans st5.s1).trans st6.s1)
              refine ⟨xs, as6.a4, by rw [ra6.length, sizeLine_eq]; exact hlen, F6, A6, wipeS vs s6, acc ++ [yv], xs ++ [u], ?_, (sA.trans st6).other hD, ⟨as6.a1, as6.a2, as6.a3, upd_same⟩, ra6.append (.cons r6 .nil), hc⟩
              rw [← ww]
              exact (o6.other as6.a1 as6.a2 as6.a3 (by rw [as6.a4]; simp) (fun u e => by rw [as6.a4] at e; cases e; exact fun z => z)).wipe vs
            · rw [if_neg hlen] at hc; cases hc
  · rintro H2 ⟨F2, A2, s2, acc, xs, o2, st2, as2, ra2, hc⟩
    rw [List.drop_of_length_le (Nat.le_refl _)] at hc
    cases hc
    exact pf D F2 A2 H2 (o1.back st2 o2) st2 ⟨[D], ⟨rfl, xs, as2.a4, ra2⟩, fun b hb => by
      rw [List.mem_singleton] at hb
      subst hb
      exact ⟨as2.a1, as2.a2, as2.a3, .inl hD⟩⟩
end
section
variable {X : Cx} {C : Fx} {W : WX} {elt tg iter : Expr} {ifs : List Expr} {scope : Scope} {own : List (Str × Nat)} {pos : Pos} {fi : Stt → Res (List PV)} {a : PV → Stt → Option Stt} {ft : Stt → Res Bool} {fe : Stt → Res PV}
/-- the tests of a comprehension -/
structure DTs (X : Cx) (C : Fx) (W : WX) (ifs : List Expr) (f : Stt → Res Bool) : Prop where
  pr : ∃ te, PTs X ifs te ∧ ∀ F A H σ s Q, OkF C F A H σ s → Post C W RB F A H σ (f s) Q → te σ H Q
theorem dts_nil : DTs X C W [] tYesD := ⟨_, pts_nil, fun F A H σ s Q o p => Post.now o p rfl⟩
theorem dts_one {c : Expr} (h : DT X C W c ft) : DTs X C W [c] ft := let ⟨t, p, q⟩ := h.pr; ⟨t, pts_one p, q⟩
/-- the readings that fit every context -/
def cTE (C : Fx) (W : WX) (f : Stt → Res PV) : TE := fun σ H Q => ∃ F A s, OkF C F A H σ s ∧ Post C W (RV C) F A H σ (f s) Q
def cTT (C : Fx) (W : WX) (f : Stt → Res Bool) : TT := fun σ H Q => ∃ F A s, OkF C F A H σ s ∧ Post C W RB F A H σ (f s) Q
def cTG (C : Fx) (vs : Nat → Bool) (a : PV → Stt → Option Stt) : TG := fun x σ H Q => ∃ F A s p s', OkF C F A H σ s ∧ Rp C F x p ∧ a p s = some s' ∧ ∀ σ' F' A' H', OkF C F' A' H' σ' s' → Step C F A H F' A' H' → SameOut vs σ σ' → Q σ' H'
theorem DV.c {e : Expr} (h : DV X C W e fe) : PE X e (cTE C W fe) := by
  obtain ⟨t, p, q⟩ := h.pr
  exact ⟨fun pins s σ H Q I ⟨F, A, s1, o, pp⟩ => p.run pins s σ H Q I (q F A H σ s1 Q o pp)⟩
theorem DTs.c (h : DTs X C W ifs ft) : PTs X ifs (cTT C W ft) := by
  obtain ⟨t, p, q⟩ := h.pr
  exact ⟨fun pins s σ H Q I ⟨F, A, s1, o, pp⟩ => p.run pins s σ H Q I (q F A H σ s1 Q o pp)⟩
theorem DG.c {vs : Nat → Bool} (h : DG X C vs tg a) : PG X tg (cTG C vs a) := by
  obtain ⟨t, p, q⟩ := h.pr
  exact ⟨fun pins s σ H v u Q I r ⟨F, A, s1, pv, s2, o, rp, e, k⟩ => p.run pins s σ H v u Q I r (q F A H σ s1 v pv s2 Q o rp e k)⟩
theorem do_lc (hc : X.calm = true) (hN : X.N.Nodup) (ok : BlkOk X.N X.env.scope scope own) (hi : DI X C W tg iter fi)
    (hg : ∀ (s : Shared) (H : Hp) (L : Addr) (cl : List (Str × Addr)) (fp : List Addr), DG (X.blk s H scope (compEnvC scope cl L X.env) fp) C (fun i => decide (i ∈ own.map (·.2))) tg a)
    (ht : ∀ (s : Shared) (H : Hp) (L : Addr) (cl : List (Str × Addr)) (fp : List Addr), DTs (X.blk s H scope (compEnvC scope cl L X.env) fp) C W0 ifs ft)
    (he : ∀ (s : Shared) (H : Hp) (L : Addr) (cl : List (Str × Addr)) (fp : List Addr), DV (X.blk s H scope (compEnvC scope cl L X.env) fp) C W0 elt fe) (hs : ∀ x, foldedSetIterable iter X.env x = pure x := by intro _; rfl) :
    DO X C W (.ListComp elt [⟨tg, iter, ifs, 0⟩] scope pos) (oComp (own.map (·.2)) fi a ft fe) := by
  obtain ⟨ti, pi, qi⟩ := hi.pr
  refine ⟨_, pe_lc hc hN pi ok (fun s H L cl fp => (hg s H L cl fp).c) (fun s H L cl fp => (ht s H L cl fp).c) (fun s H L cl fp => (he s H L cl fp).c) hs, ?_⟩
  exact lc_den qi (fun F A H σ s x p s' Q o r e k => ⟨F, A, s, p, s', o, r, e, k⟩) (fun F A H σ s Q o p => ⟨F, A, s, o, p⟩) (fun F A H σ s Q o p => ⟨F, A, s, o, p⟩)
/-- name = [..] on one line, the name a local: the list is a plain value -/
theorem ds_lcV {i : Nat} {y : Str} {py spos : Pos} (hc : X.calm = true) (hN : X.N.Nodup) (hy : X.N[i]? = some y) (hyl : X.env.scope.names.lookup y = some .local)
    (hsw : swapsWith (.ListComp elt [⟨tg, iter, ifs, 0⟩] scope pos) (some (.Name y py)) spos.line X.env = pure true) (ok : BlkOk X.N X.env.scope scope own) (hi : DI X C W tg iter fi)
    (hg : ∀ (s : Shared) (H : Hp) (L : Addr) (cl : List (Str × Addr)) (fp : List Addr), DG (X.blk s H scope (compEnvC scope cl L X.env) fp) C (fun i => decide (i ∈ own.map (·.2))) tg a)
    (ht : ∀ (s : Shared) (H : Hp) (L : Addr) (cl : List (Str × Addr)) (fp : List Addr), DTs (X.blk s H scope (compEnvC scope cl L X.env) fp) C W0 ifs ft)
    (he : ∀ (s : Shared) (H : Hp) (L : Addr) (cl : List (Str × Addr)) (fp : List Addr), DV (X.blk s H scope (compEnvC scope cl L X.env) fp) C W0 elt fe) (hs : ∀ x, foldedSetIterable iter X.env x = pure x := by intro _; rfl) :
    DS X C W (.Assign [.Name y py] (.ListComp elt [⟨tg, iter, ifs, 0⟩] scope pos) spos) (gAsg (frz (oComp (own.map (·.2)) fi a ft fe)) (aName i)) := by
  obtain ⟨ti, pi, qi⟩ := hi.pr
  refine ⟨_, ps_setLc hc hN hy hyl hsw pi ok (fun s H L cl fp => (hg s H L cl fp).c) (fun s H L cl fp => (ht s H L cl fp).c) (fun s H L cl fp => (he s H L cl fp).c) hs, fun F A H σ s D o p => ?_⟩
  have den := lc_den (C := C) (W := W) (vs := own.map (·.2)) (tg := cTG C (fun i => decide (i ∈ own.map (·.2))) a) (tt := cTT C W0 ft) (te := cTE C W0 fe) qi (fun F A H σ s x p s' Q o r e k => ⟨F, A, s, p, s', o, r, e, k⟩) (fun F A H σ s Q o p => ⟨F, A, s, o, p⟩) (fun F A H σ s Q o p => ⟨F, A, s, o, p⟩)
  refine den F A H σ s _ o ?_
  unfold gAsg frz at p
  cases hr : oComp (own.map (·.2)) fi a ft fe s with
  | ok m s1 =>
    rw [hr] at p
    cases m with
    | lst l =>
      intro q F' A' H' o1 st1 fr
      obtain ⟨F2, o2, st2, r2⟩ := o1.freeze st1 fr
      obtain ⟨o3, st3⟩ := o2.setV (i := i) r2
      exact p _ _ _ _ o3 (st2.trans st3)
    | _ => exact p.elim
  | ex c v s1 => rw [hr] at p; exact fun d F' A' H' => p d σ F' A' H'
  | stuck => rw [hr] at p; exact p
end
end PL
/-! PL8: operators and built-ins by plain values. -/
namespace PL
open PySem PySem.Spec PyProof.Rows L2
/-! ### numbers -/
def okMul (i j : Int) : Bool := decide (i.natAbs.log2 + j.natAbs.log2 < 1000000)
def okDiv (j : Int) : Bool := decide (j ≠ 0 ∧ j.natAbs.log2 < 9000)
def okPow (i j : Int) : Bool := decide (0 ≤ j ∧ (i.natAbs.log2 + 1) * j.toNat ≤ 1000000)
def pSub : PV → PV → Option PV
  | .int i, .int j => some (.int (i - j))
  | _, _ => none
def pFdiv : PV → PV → Option PV
  | .int i, .int j => if okDiv j = true then some (.int (i.fdiv j)) else none
  | _, _ => none
def pMod : PV → PV → Option PV
  | .int i, .int j => if j ≠ 0 then some (.int (i.fmod j)) else none
  | _, _ => none
def pPow : PV → PV → Option PV
  | .int i, .int j => if okPow i j = true then some (.int (i ^ j.toNat)) else none
  | _, _ => none
def pNeg : PV → Option PV
  | .int i => some (.int (-i))
  | _ => none
def pLt : PV → PV → Option PV
  | .int i, .int j => some (.bl (decide (i < j)))
  | _, _ => none
def pLe : PV → PV → Option PV
  | .int i, .int j => some (.bl (decide (i ≤ j)))
  | _, _ => none
def pGt : PV → PV → Option PV
  | .int i, .int j => some (.bl (decide (j < i)))
  | _, _ => none
def pGe : PV → PV → Option PV
  | .int i, .int j => some (.bl (decide (j ≤ i)))
  | _, _ => none
def pAdd : PV → PV → Option PV
  | .int i, .int j => some (.int (i + j))
  | .str x, .str y => if x.length + y.length ≤ 16777216 then some (.str (x ++ y)) else none
  | .lst x, .lst y => if x.length + y.length ≤ 16777216 then some (.lst (x ++ y)) else none
  | .tup x, .tup y => if x.length + y.length ≤ 16777216 then some (.tup (x ++ y)) else none
  | _, _ => none
def pMul : PV → PV → Option PV
  | .int i, .int j => if okMul i j = true then some (.int (i * j)) else none
  | .lst x, .int k => if -(2 ^ 63) ≤ k ∧ k < 2 ^ 63 ∧ x.length * k.toNat ≤ 16777216 then some (.lst (List.replicate k.toNat x).flatten) else none
  | _, _ => none
section
variable {X : Cx} {C : Fx}
/-- two ints -/
theorem opD_int {Cd : Int → Int → Prop} {g : Int → Int → V} {f : PV → PV → Option PV} {z : Int → Int → PV} (h : ∀ p q y, f p q = some y → ∃ i j, p = .int i ∧ q = .int j ∧ Cd i j ∧ y = z i j) (hz : ∀ F i j, Rp C F (g i j) (z i j)) : OpD C (rI Cd g) f := by
  intro F A H σ s x y p q w Q o r1 r2 e k
  obtain ⟨i, j, rfl, rfl, hc, rfl⟩ := h _ _ _ e
  cases r1
  cases r2
  exact ⟨i, j, rfl, rfl, hc, k _ F A H o .refl (hz F i j)⟩
theorem opD_int0 {g : Int → Int → V} {f : PV → PV → Option PV} {z : Int → Int → PV} (h : ∀ p q y, f p q = some y → ∃ i j, p = .int i ∧ q = .int j ∧ y = z i j) (hz : ∀ F i j, Rp C F (g i j) (z i j)) : OpD C (rI0 g) f := by
  intro F A H σ s x y p q w Q o r1 r2 e k
  obtain ⟨i, j, rfl, rfl, rfl⟩ := h _ _ _ e
  cases r1
  cases r2
  exact ⟨i, j, rfl, rfl, k _ F A H o .refl (hz F i j)⟩
theorem OpD.or {r r' : R2} {f : PV → PV → Option PV} (h : ∀ F A H σ s x y p q z (Q : VK), OkF C F A H σ s → Rp C F x p → Rp C F y q → f p q = some z →
    (∀ v F' A' H', OkF C F' A' H' σ s → Step C F A H F' A' H' → Rp C F' v z → Q v H') → r x y H Q ∨ r' x y H Q) : OpD C (fun x y H Q => r x y H Q ∨ r' x y H Q) f := h
def CDivA (i j : Int) : Prop := j ≠ 0 ∧ j.natAbs.log2 < 9000
theorem op_fdivA : OpR X (binaryOp .FloorDiv) (rI CDivA fun i j => .int (i.fdiv j)) := opI fun _ _ _ _ _ _ _ hc q => floordiv_int hc.1 q (.inl (PyProof.noPylong_of_log2 hc.2))
def CPowA (i j : Int) : Prop := 0 ≤ j ∧ (i.natAbs.log2 + 1) * j.toNat ≤ 1000000
theorem bits_log (i : Int) : Builtin.Int.intBits i ≤ i.natAbs.log2 + 1 := by
  unfold Builtin.Int.intBits
  split <;> omega
theorem op_powA : OpR X (binaryOp .Pow) (rI CPowA fun i j => .int (i ^ j.toNat)) := opI fun i j _ _ _ _ _ hc q => by
  obtain ⟨h1, h2⟩ := hc
  refine pow_int h1 ?_ q
  have b := bits_log i
  have e : ((j.toNat : Nat) : Int) = j := Int.toNat_of_nonneg h1
  have m : Builtin.Int.intBits i * j.toNat ≤ 1000000 := Nat.le_trans (Nat.mul_le_mul_right _ b) h2
  have : ((Builtin.Int.intBits i * j.toNat : Nat) : Int) ≤ ((1000000 : Nat) : Int) := Int.ofNat_le.mpr m
  rw [Int.natCast_mul, e] at this
  have z : (1000000 : Int) ≤ 2 ^ 27 := by decide
  omega
theorem d_sub : OpD C (rI0 fun i j => .int (i - j)) pSub := opD_int0 (z := fun i j => .int (i - j)) (fun p q y e => by unfold pSub at e; split at e <;> cases e; exact ⟨_, _, rfl, rfl, rfl⟩) fun _ _ _ => .int _
theorem d_lt : OpD C (rI0 fun i j => .bl (decide (i < j))) pLt := opD_int0 (z := fun i j => .bl (decide (i < j))) (fun p q y e => by unfold pLt at e; split at e <;> cases e; exact ⟨_, _, rfl, rfl, rfl⟩) fun _ _ _ => .bl _
theorem d_le : OpD C (rI0 fun i j => .bl (decide (i ≤ j))) pLe := opD_int0 (z := fun i j => .bl (decide (i ≤ j))) (fun p q y e => by unfold pLe at e; split at e <;> cases e; exact ⟨_, _, rfl, rfl, rfl⟩) fun _ _ _ => .bl _
theorem d_gt : OpD C (rI0 fun i j => .bl (decide (j < i))) pGt := opD_int0 (z := fun i j => .bl (decide (j < i))) (fun p q y e => by unfold pGt at e; split at e <;> cases e; exact ⟨_, _, rfl, rfl, rfl⟩) fun _ _ _ => .bl _
theorem d_ge : OpD C (rI0 fun i j => .bl (decide (j ≤ i))) pGe := opD_int0 (z := fun i j => .bl (decide (j ≤ i))) (fun p q y e => by unfold pGe at e; split at e <;> cases e; exact ⟨_, _, rfl, rfl, rfl⟩) fun _ _ _ => .bl _
theorem d_fdiv : OpD C (rI CDivA fun i j => .int (i.fdiv j)) pFdiv := opD_int (z := fun i j => .int (i.fdiv j)) (fun p q y e => by
  unfold pFdiv at e; split at e
  · split at e
    · rename_i h; cases e; exact ⟨_, _, rfl, rfl, (by have z := of_decide_eq_true h; exact z), rfl⟩
    · cases e
  · cases e) fun _ _ _ => .int _
theorem d_mod : OpD C (rI (fun _ j => j ≠ 0) fun i j => .int (i.fmod j)) pMod := opD_int (z := fun i j => .int (i.fmod j)) (fun p q y e => by
  unfold pMod at e; split at e
  · split at e
    · rename_i h; cases e; exact ⟨_, _, rfl, rfl, h, rfl⟩
    · cases e
  · cases e) fun _ _ _ => .int _
theorem d_pow : OpD C (rI CPowA fun i j => .int (i ^ j.toNat)) pPow := opD_int (z := fun i j => .int (i ^ j.toNat)) (fun p q y e => by
  unfold pPow at e; split at e
  · split at e
    · rename_i h; cases e; exact ⟨_, _, rfl, rfl, (by have z := of_decide_eq_true h; exact z), rfl⟩
    · cases e
  · cases e) fun _ _ _ => .int _
theorem d_neg : UnD C (rU fun i => .int (-i)) pNeg := by
  intro F A H σ s x p z Q o r e k
  cases r with
  | int i => cases e; exact ⟨i, rfl, k _ F A H o .refl (.int _)⟩
  | _ => cases e
def rAddA (K : PySem.W.Frag) : R2 := fun x y H Q => rI0 (fun i j => .int (i + j)) x y H Q ∨ ((∃ i j, x = .str i ∧ y = .str j ∧ i.length + j.length ≤ sizeLine ∧ Q (.str (i ++ j)) H) ∨ (rCat x y H Q ∨ rCatA K x y H Q))
theorem op_addA : OpR X (binaryOp .Add) (rAddA X.K) := op_add.or (op_add_str.or (op_cat.or op_catA))
theorem d_add {K : PySem.W.Frag} (hK : K = C.K) : OpD C (rAddA K) pAdd := by
  intro F A H σ s x y p q z Q o r1 r2 e k
  unfold pAdd at e
  split at e
  · cases e; cases r1; cases r2
    exact .inl ⟨_, _, rfl, rfl, k _ F A H o .refl (.int _)⟩
  · split at e
    · rename_i hl
      cases e; cases r1; cases r2
      exact .inr (.inl ⟨_, _, rfl, rfl, line_le hl, k _ F A H o .refl (.str _)⟩)
    · cases e
  · split at e
    · rename_i hl
      cases e
      cases r1 with
      | @lst a xs l h1 h2 =>
        cases r2 with
        | @lst b ys l' h3 h4 =>
          refine .inr (.inr (.inl ⟨a, b, xs, ys, rfl, rfl, o.sub _ _ h1, o.sub _ _ h3, by rw [h2.length, h4.length]; exact line_le hl, fun p hp => ?_⟩))
          obtain ⟨o2, st2⟩ := o.alloc (o := .lst (xs ++ ys)) hp
          exact k _ _ _ _ o2 st2 (.lst upd_same ((h2.append h4).mono st2.s1))
    · cases e
  · split at e
    · rename_i hl
      cases e
      cases r1 with
      | @tup a xs l h1 h2 =>
        cases r2 with
        | @tup b ys l' h3 h4 =>
          refine .inr (.inr (.inr ⟨a, b, xs, ys, rfl, rfl, by rw [hK]; exact sqT_mono o.sub h1, by rw [hK]; exact sqT_mono o.sub h3, by rw [h2.length, h4.length]; exact line_le hl, fun e => ?_, fun _ e => ?_, fun _ _ p hp => ?_⟩))
          · subst e
            cases h2
            exact k _ F A H o .refl (.tup h3 h4)
          · subst e
            cases h4
            rw [List.append_nil] at k
            exact k _ F A H o .refl (.tup h1 h2)
          · obtain ⟨o2, st2⟩ := o.alloc (o := .tup (xs ++ ys)) hp
            exact k _ _ _ _ o2 st2 (.tup (.of upd_same) ((h2.append h4).mono st2.s1))
    · cases e
  · cases e
def rMulA : R2 := fun x y H Q => rI CMulW (fun i j => .int (i * j)) x y H Q ∨ rRep x y H Q
theorem op_mulA : OpR X (binaryOp .Mult) rMulA := op_mulW.or op_rep
theorem Rps.rep {F : Hp} {xs : List V} {l : List PV} (r : Rps C F xs l) : ∀ k : Nat, Rps C F (List.replicate k xs).flatten (List.replicate k l).flatten
  | 0 => .nil
  | k + 1 => by
    rw [List.replicate_succ, List.replicate_succ, List.flatten_cons, List.flatten_cons]
    exact r.append (Rps.rep r k)
theorem d_mul : OpD C rMulA pMul := by
  intro F A H σ s x y p q z Q o r1 r2 e k
  unfold pMul at e
  split at e
  · split at e
    · rename_i h
      cases e; cases r1; cases r2
      exact .inl ⟨_, _, rfl, rfl, (by have z := of_decide_eq_true h; exact z), k _ F A H o .refl (.int _)⟩
    · cases e
  · split at e
    · rename_i h
      cases e
      cases r2
      cases r1 with
      | @lst a xs l h1 h2 =>
        refine .inr ⟨a, _, xs, rfl, rfl, o.sub _ _ h1, h.1, h.2.1, by rw [h2.length]; exact line_le h.2.2, fun p hp => ?_⟩
        obtain ⟨o2, st2⟩ := o.alloc (o := .lst (List.replicate (Int.toNat _) xs).flatten) hp
        exact k _ _ _ _ o2 st2 (.lst upd_same ((h2.rep _).mono st2.s1))
    · cases e
  · cases e
end
/-! ### data, ==, in -/
mutual
def toD : PV → Option PyData
  | .non => some .none
  | .bl b => some (.bool b)
  | .int i => some (.int i)
  | .str x => some (.str x)
  | .tup l => (toDs l).map .tuple
  | .lst l => (toDs l).map .list
  | .scr l => (toDs l).map .list
  | .ins _ _ => none
  | .fnp => none
  | .exi _ _ => none
  | .dcv _ _ => none
def toDs : List PV → Option (List PyData)
  | [] => some []
  | p :: r => match toD p, toDs r with
    | some d, some ds => some (d :: ds)
    | _, _ => none
end
mutual
theorem dp_of {C : Fx} {F : Hp} : ∀ {v : V} {p : PV} {d : PyData}, Rp C F v p → toD p = some d → Dp C.K F v d
  | _, _, _, .non, e => by cases e; exact .non
  | _, _, _, .bl b, e => by cases e; exact .bl b
  | _, _, _, .int i, e => by cases e; exact .int i
  | _, _, _, .str x, e => by cases e; exact .str x
  | _, _, d, .tup (l := l) h r, e => by
    have e : (toDs l).map PyData.tuple = some d := e
    cases h2 : toDs l with
    | none => rw [h2] at e; cases e
    | some ds => rw [h2] at e; cases e; exact .tup h (dps_of r h2)
  | _, _, d, .lst (l := l) h r, e => by
    have e : (toDs l).map PyData.list = some d := e
    cases h2 : toDs l with
    | none => rw [h2] at e; cases e
    | some ds => rw [h2] at e; cases e; exact .lst (.of h) (dps_of r h2)
  | _, _, d, .scr (l := l) h r, e => by
    have e : (toDs l).map PyData.list = some d := e
    cases h2 : toDs l with
    | none => rw [h2] at e; cases e
    | some ds => rw [h2] at e; cases e; exact .lst h (dps_of r h2)
  | _, _, _, .ins _ _, e => by cases e
  | _, _, _, .fnp, e => by cases e
  | _, _, _, .exi _ _ _, e => by cases e
  | _, _, _, .dcv _ _ _, e => by cases e
theorem dps_of {C : Fx} {F : Hp} : ∀ {v : List V} {p : List PV} {d : List PyData}, Rps C F v p → toDs p = some d → DpAll C.K F v d
  | _, _, _, .nil, e => by cases e; exact .nil
  | _, p :: r, d, .cons h1 h2, e => by
    unfold toDs at e
    split at e
    · rename_i d1 ds e1 e2
      cases e
      exact .cons (dp_of h1 e1) (dps_of h2 e2)
    · cases e
end
mutual
theorem dp_mono {K : PySem.W.Frag} {F H : Hp} (sm : Same F H) : ∀ {v : V} {d : PyData}, Dp K F v d → Dp K H v d
  | _, _, .non => .non
  | _, _, .bl b => .bl b
  | _, _, .int i => .int i
  | _, _, .str x => .str x
  | _, _, .lst h r => .lst (sm.seq h) (dps_mono sm r)
  | _, _, .tup h r => .tup (sqT_mono sm h) (dps_mono sm r)
theorem dps_mono {K : PySem.W.Frag} {F H : Hp} (sm : Same F H) : ∀ {v : List V} {d : List PyData}, DpAll K F v d → DpAll K H v d
  | _, _, .nil => .nil
  | _, _, .cons h r => .cons (dp_mono sm h) (dps_mono sm r)
end
def pEqB (p q : PV) : Option Bool := match toD p, toD q with
  | some d, some e => if (SeqAt.shaped d && SeqAt.shaped e) = true then some (PyData.eqv d e) else none
  | _, _ => none
def pEq (p q : PV) : Option PV := (pEqB p q).map .bl
def pNe (p q : PV) : Option PV := (pEqB p q).map fun b => .bl (!b)
def pIs : PV → PV → Option PV
  | p, .non => some (.bl (match p with | .non => true | _ => false))
  | _, _ => none
def pIsNot : PV → PV → Option PV
  | p, .non => some (.bl (match p with | .non => false | _ => true))
  | _, _ => none
def pInB : PV → PV → Option Bool
  | p, .lst l => match toD p, toDs l with
    | some d, some ds => if (SeqAt.shaped d && SeqAt.shaped (.list ds)) = true then some (ds.any fun z => PyData.eqv z d) else none
    | _, _ => none
  | _, _ => none
def pIn (p q : PV) : Option PV := (pInB p q).map .bl
def pNotIn (p q : PV) : Option PV := (pInB p q).map fun b => .bl (!b)
section
variable {X : Cx} {C : Fx}
theorem eqB_at {F H : Hp} {p q : PV} {b : Bool} {x y : V} (sm : Same F H) (r1 : Rp C F x p) (r2 : Rp C F y q) (h : pEqB p q = some b) : ∃ d e, Dp C.K H x d ∧ Dp C.K H y e ∧ SeqAt.shaped d = true ∧ SeqAt.shaped e = true ∧ b = PyData.eqv d e := by
  unfold pEqB at h
  split at h
  · rename_i d e h1 h2
    split at h
    · rename_i hs
      rw [Bool.and_eq_true] at hs
      cases h
      exact ⟨d, e, dp_mono sm (dp_of r1 h1), dp_mono sm (dp_of r2 h2), hs.1, hs.2, rfl⟩
    · cases h
  · cases h
theorem d_eq {K : PySem.W.Frag} (hK : K = C.K) : OpD C (rEqD K) pEq := by
  intro F A H σ s x y p q z Q o r1 r2 e k
  unfold pEq at e
  cases h : pEqB p q with
  | none => rw [h] at e; cases e
  | some b =>
    rw [h] at e; cases e
    obtain ⟨d, e, h1, h2, h3, h4, rfl⟩ := eqB_at o.sub r1 r2 h
    rw [hK]
    exact ⟨d, e, h1, h2, h3, h4, k _ F A H o .refl (.bl _)⟩
theorem d_ne {K : PySem.W.Frag} (hK : K = C.K) : OpD C (rNeD K) pNe := by
  intro F A H σ s x y p q z Q o r1 r2 e k
  unfold pNe at e
  cases h : pEqB p q with
  | none => rw [h] at e; cases e
  | some b =>
    rw [h] at e; cases e
    obtain ⟨d, e, h1, h2, h3, h4, rfl⟩ := eqB_at o.sub r1 r2 h
    rw [hK]
    exact ⟨d, e, h1, h2, h3, h4, k _ F A H o .refl (.bl _)⟩
theorem d_is : OpD C (fun x y H Q => y = .non ∧ Q (.bl (decide (x = .non))) H) pIs := by
  intro F A H σ s x y p q z Q o r1 r2 e k
  cases r2 with
  | non =>
    refine ⟨rfl, ?_⟩
    cases r1 with
    | non => cases e; exact k _ F A H o .refl (.bl _)
    | _ => cases e; exact k _ F A H o .refl (.bl _)
  | _ => cases r1 <;> cases e
theorem d_isnot : OpD C (fun x y H Q => y = .non ∧ Q (.bl (!decide (x = .non))) H) pIsNot := by
  intro F A H σ s x y p q z Q o r1 r2 e k
  cases r2 with
  | non =>
    refine ⟨rfl, ?_⟩
    cases r1 with
    | non => cases e; exact k _ F A H o .refl (.bl _)
    | _ => cases e; exact k _ F A H o .refl (.bl _)
  | _ => cases r1 <;> cases e
end
end PL
/-! PLS: sum(xs), xs a list of bools. -/
/-! PL9: subscripts, slices, objects that are changed, built-ins. -/
namespace PL
open PySem PySem.Spec PyProof.Rows L2
def getM (s : Stt) (i : Nat) : Option (MKey × MO) := match keyOf s i with
  | some k => (getK s k).map fun m => (k, m)
  | none => none
section
variable {C : Fx} {F H : Hp} {A : Nat → List Addr} {σ : L2.St} {s : Stt}
theorem mut_at (o : OkF C F A H σ s) {i : Nat} {k : MKey} {m : MO} (h : getM s i = some (k, m)) : getK s k = some m ∧ σ[i]? = some (some (.ref (adr σ C k))) ∧ MAt C F H (adr σ C k) (fpr A C k) m := by
  unfold getM at h
  cases e : keyOf s i with
  | none => rw [e] at h; cases h
  | some k' =>
    have h : (getK s k').map (fun m => (k', m)) = some (k, m) := by rw [e] at h; exact h
    cases e2 : getK s k' with
    | none => rw [e2] at h; cases h
    | some m' =>
      rw [e2] at h
      cases h
      refine ⟨e2, ?_, (key_at o e2).1⟩
      unfold keyOf at e
      split at e
      · cases e; exact (key_at o e2).2.2.1 i rfl
      · rename_i q hq
        cases e; exact (o.lent i q hq).1
      · cases e
/-- an object of the state is changed -/
theorem OkF.upd (o : OkF C F A H σ s) {k : MKey} {m m2 : MO} {H2 : Hp} (hk : getK s k = some m) (hH : ∀ b, b ∉ fpr A C k → H2 b = H b) (hN : ∀ b, b ∈ fpr A C k → H2 b ≠ none) (hM : MAt C F H2 (adr σ C k) (fpr A C k) m2) :
    OkF C F A H2 σ (setK s k m2) ∧ Step C F A H F A H2 := by
  obtain ⟨m0, hfr, hadr, hnb⟩ := key_at o hk
  have e1 : setAll s [k] [m2] = setK s k m2 := rfl
  have out : ∀ k', (∀ q, k' = MKey.inr q → q < C.nb) → k' ≠ k → ∀ b x, b ∈ fpr A C k' → H b = some x → H2 b = some x := fun k' hq ne b x hb hx => by
    rw [hH b (fun z => ne (key_dis o hq hnb hb z))]
    exact hx
  have inr_lt : ∀ (q : Nat) (m : MO), s.mu[q]? = some m → q < C.nb := fun q m e => by rw [← o.nb]; exact (List.getElem?_eq_some_iff.mp e).1
  have there : ∀ b, H b ≠ none → H2 b ≠ none := fun b hb => by
    by_cases hm : b ∈ fpr A C k
    · exact hN b hm
    · rw [hH b hm]; exact hb
  rw [← e1]
  refine ⟨⟨?_, fun b u e => ?_, fun i v e => ?_, fun i m e => ?_, ?_, fun i q e => ?_, fun q m e => ?_, fun i b hb => ?_, o.dis, o.freeB, o.disB, ⟨o.ext.1, o.ext.2.off0 fun b u t e => by rw [hH b fun z => (key_at o hk).1.nte b u z e t]; exact e⟩⟩, ⟨fun _ _ h => h, fun _ h => .inl h, fun _ h => .inl h, fun b u e _ n1 n2 => ?_, there⟩⟩
  · rw [(setAll_lens [k] [m2] s).1]; exact o.len
  · rw [hH b (fun z => by rw [(hfr b z).1] at e; cases e)]
    exact o.sub b u e
  · rcases setAll_ro [k] [m2] s rfl i _ e with ⟨j, m, h1, h2, h3⟩ | ⟨h1, h2⟩
    · cases h3
    · exact o.val i v h1
  · rcases setAll_ro [k] [m2] s rfl i _ e with ⟨j, m', h1, h2, h3⟩ | ⟨h1, h2⟩
    · cases h3
      cases j with
      | succ j => simp at h1
      | zero =>
        simp at h1 h2
        subst h1 h2
        exact ⟨_, hadr i rfl, hM⟩
    · obtain ⟨p, h3, h4⟩ := o.own i m h1
      exact ⟨p, h3, h4.keep (fun _ _ h => h) (out (.inl i) (fun q z => by cases z) (fun z => h2 (by rw [z]; exact List.mem_cons_self)))⟩
  · rw [(setAll_lens [k] [m2] s).2]; exact o.nb
  · rcases setAll_ro [k] [m2] s rfl i _ e with ⟨j, m', h1, h2, h3⟩ | ⟨h1, h2⟩
    · cases h3
    · exact o.lent i q h1
  · rcases setAll_mu [k] [m2] s rfl q _ e with ⟨j, h1, h2⟩ | ⟨h1, h2⟩
    · cases j with
      | succ j => simp at h1
      | zero =>
        simp at h1 h2
        subst h1 h2
        exact hM
    · exact (o.bor q m h1).keep (fun _ _ h => h) (out (.inr q) (fun q' z => by cases z; exact inr_lt q m h1) (fun z => h2 (by rw [z]; exact List.mem_cons_self)))
  · obtain ⟨h1, h2⟩ := o.free i b hb
    exact ⟨h1, there b h2⟩
  · rw [hH b (fun z => ?_)]
    · exact e
    · cases k with
      | inl i => exact n1 ⟨i, z⟩
      | inr q => exact n2 ⟨q, hnb q rfl, z⟩
/-- a list of the state gets new items -/
theorem OkF.updL (o : OkF C F A H σ s) {k : MKey} {l l2 : List PV} {ys : List V} (hk : getK s k = some (.lst l)) (r : Rps C F ys l2) :
    OkF C F A (L2.upd H (adr σ C k) (.lst ys)) σ (setK s k (.lst l2)) ∧ Step C F A H F A (L2.upd H (adr σ C k) (.lst ys)) := by
  obtain ⟨⟨hf, xs, hx, hr⟩, _⟩ := key_at o hk
  refine o.upd hk (fun b hb => upd_ne (fun e => hb (by rw [hf, e]; exact List.mem_cons_self))) (fun b hb => ?_) ⟨hf, ys, upd_same, r⟩
  rw [hf, List.mem_singleton] at hb
  subst hb
  rw [upd_same]; simp
end
/-! ### subscripts -/
def pIx : PV → PV → Option PV
  | .lst l, .int i => atI l i
  | .tup l, .int i => atI l i
  | .scr l, .int i => atI l i
  | .str z, .int i => if z.length ≤ 16777216 then (atI z.cps.toList i).map fun c => .str ⟨#[c]⟩ else none
  | _, _ => none
theorem Rps.atI {C : Fx} {F : Hp} {xs : List V} {l : List PV} {i : Int} {p : PV} (r : Rps C F xs l) (h : atI l i = some p) : ∃ v, L2.atI xs i = some v ∧ Rp C F v p := by
  unfold L2.atI at h ⊢
  rw [r.length]
  cases e : ixN l.length i with
  | none => rw [e] at h; cases h
  | some j =>
    rw [e] at h
    obtain ⟨v, h1, h2⟩ := r.get h
    exact ⟨v, h1, h2⟩
section
variable {X : Cx} {C : Fx} {W : WX} {a b e : Expr} {pos : Pos} {fa fb fe : Stt → Res PV}
theorem d_ix {K : PySem.W.Frag} (hK : K = C.K) : OpD C (rIx K) pIx := by
  intro F A H σ s x y p q z Q o r1 r2 e k
  unfold pIx at e
  split at e
  · cases r2
    cases r1 with
    | @lst a xs l h1 h2 =>
      obtain ⟨v, h3, h4⟩ := h2.atI e
      exact .inl ⟨a, xs, _, v, rfl, rfl, .of (o.sub _ _ h1), h3, k _ F A H o .refl h4⟩
  · cases r2
    cases r1 with
    | @tup a xs l h1 h2 =>
      obtain ⟨v, h3, h4⟩ := h2.atI e
      exact .inr (.inl ⟨a, xs, _, v, rfl, rfl, by rw [hK]; exact sqT_mono o.sub h1, h3, k _ F A H o .refl h4⟩)
  · cases r2
    cases r1 with
    | @scr a xs l h1 h2 =>
      obtain ⟨v, h3, h4⟩ := h2.atI e
      exact .inl ⟨a, xs, _, v, rfl, rfl, by rw [hK]; exact o.sub.seq h1, h3, k _ F A H o .refl h4⟩
  · split at e
    · rename_i hl
      cases r2
      cases r1
      cases h : atI (α := Nat) _ _ with
      | none => rw [h] at e; cases e
      | some c =>
        rw [h] at e; cases e
        exact .inr (.inr ⟨_, _, c, rfl, rfl, line_le hl, h, k _ F A H o .refl (.str _)⟩)
    · cases e
  · cases e
theorem dv_ix (hK : X.K = C.K) (ha : DV X C W a fa) (hb : DV X C W b fb) (hs : PlainIx b) : DV X C W (.Subscript a b pos) (eBin pIx fa fb) := by
  obtain ⟨ta, pa, qa⟩ := ha.pr
  obtain ⟨tb, pb, qb⟩ := hb.pr
  exact ⟨_, pe_ix ix_seq pa pb hs, opPost (d_ix hK) qa qb⟩
/-- an item of an object that is changed -/
def eIxM (i : Nat) (fb : Stt → Res PV) : Stt → Res PV := fun s => (getM s i).elim .stuck fun _ => (fb s).bind fun q s1 => match getM s1 i with
  | some (_, .lst l) => Res.opt s1 (pIx (.lst l) q)
  | _ => .stuck
theorem dv_ixM (i : Nat) {x : Str} {p : Pos} (hb : DV X C W b fb) (hs : PlainIx b) (hN : X.N[i]? = some x := by rfl) (hv : Vis X.env.scope x := by first | exact Or.inl rfl | exact Or.inr (Or.inl rfl) | exact Or.inr (Or.inr rfl)) (hd : (x == ("__debug__" : Str)) = false := by decide)
    (hcd : (x == ("__classdict__" : Str)) = false := by decide) : DV X C W (.Subscript (.Name x p) b pos) (eIxM i fb) := by
  obtain ⟨tb, pb, qb⟩ := hb.pr
  refine ⟨_, pe_ix ix_list (pe_var hN hv hd hcd) pb hs, fun F A H σ s Q o pp => ?_⟩
  unfold eIxM at pp
  cases e0 : getM s i with
  | none => rw [e0] at pp; exact pp.elim
  | some km =>
    rw [e0] at pp
    obtain ⟨_, h1, _⟩ := mut_at o (k := km.1) (m := km.2) e0
    refine ⟨_, h1, ?_⟩
    have pp : Post C W (RV C) F A H σ ((fb s).bind fun q s1 => match getM s1 i with
      | some (_, .lst l) => Res.opt s1 (pIx (.lst l) q)
      | _ => .stuck) Q := pp
    refine qb F A H σ s _ o (pp.seq fun q s1 v F1 A1 H1 _ o1 st1 r1 p1 => ?_)
    split at p1
    · rename_i k l e1
      obtain ⟨g1, g2, g3⟩ := mut_at o1 e1
      obtain ⟨z, e2, kk⟩ := Post.opt p1
      obtain ⟨_, xs, hx, hr⟩ := g3
      rw [h1] at g2
      have ea : adr σ C km.1 = adr σ C k := V.ref.inj (Option.some.inj (Option.some.inj g2))
      have e2' : pIx (.lst l) q = some z := e2
      unfold pIx at e2'
      split at e2'
      · rename_i l' i' ee _
        cases ee
        cases r1
        obtain ⟨u, h3, h4⟩ := hr.atI e2'
        exact ⟨_, xs, _, u, rfl, rfl, by rw [ea]; exact .of hx, h3, kk u F1 A1 H1 o1 .refl h4⟩
      · rename_i ee _; cases ee
      · rename_i ee _; cases ee
      · rename_i ee _; cases ee
      · cases e2'
    · exact p1.elim
/-- x[i] = v, x an object that is changed -/
def gSetIx (i : Nat) (fv fi : Stt → Res PV) : Stt → Fl := fun s => (fv s).fl fun p s1 => (getM s1 i).elim .stuck fun _ => (fi s1).fl fun q s2 => match q, getM s2 i with
  | .int j, some (k, .lst l) => match ixN l.length j with
    | some n => .nx (setK s2 k (.lst (l.set n p)))
    | none => .stuck
  | _, _ => .stuck
theorem ds_setIx (i : Nat) {x : Str} {p p2 : Pos} {v : Expr} {fv : Stt → Res PV} (hv : DV X C W v fv) (hb : DV X C W b fb) (hN : X.N[i]? = some x := by rfl) (hvis : Vis X.env.scope x := by first | exact Or.inl rfl | exact Or.inr (Or.inl rfl) | exact Or.inr (Or.inr rfl)) (hd : (x == ("__debug__" : Str)) = false := by decide)
    (hcd : (x == ("__classdict__" : Str)) = false := by decide) (hs : swapsWithSole [.Subscript (.Name x p) b p2] v pos.line X.env = pure false := by rfl) (hw : swappedStores [.Subscript (.Name x p) b p2] v X.env = pure none := by rfl)
    (h1 : (assignEach [.Subscript (.Name x p) b p2] X.env).map (·.2) = [assign (.Subscript (.Name x p) b p2) X.env] := by rfl) (hsub : ∀ ti, PE X b ti → PG X (.Subscript (.Name x p) b p2) (gSub (tVar i) ti rSetL) := by intro ti h; exact pg_sub (pv _) h set_list) : DS X C W (.Assign [.Subscript (.Name x p) b p2] v pos) (gSetIx i fv fb) := by
  obtain ⟨tv, pv, qv⟩ := hv.pr
  obtain ⟨tb, pb, qb⟩ := hb.pr
  refine ⟨_, ps_asg pv (hsub tb pb) hs hw h1, fun F A H σ s D o pp => ?_⟩
  refine qv F A H σ s _ o (PostS.seq pp fun pv s1 xv F1 A1 H1 _ o1 st1 r1 p1 => ?_)
  cases e0 : getM s1 i with
  | none => rw [e0] at p1; exact p1.elim
  | some km =>
    rw [e0] at p1
    obtain ⟨_, g0, _⟩ := mut_at o1 (k := km.1) (m := km.2) e0
    refine ⟨_, g0, ?_⟩
    refine qb F1 A1 H1 σ s1 _ o1 (PostS.seq p1 fun q s2 xq F2 A2 H2 _ o2 st2 r2 p2 => ?_)
    cases q with
    | int j =>
      cases e1 : getM s2 i with
      | none => simp only [e1] at p2; exact p2.elim
      | some km2 =>
        obtain ⟨k, m⟩ := km2
        simp only [e1] at p2
        cases m with
        | lst l =>
          simp only at p2
          cases e2 : ixN l.length j with
          | none => rw [e2] at p2; exact p2.elim
          | some n =>
            rw [e2] at p2
            obtain ⟨g1, g2, g3⟩ := mut_at o2 e1
            obtain ⟨_, xs, hx, hr⟩ := g3
            rw [g0] at g2
            have ea : adr σ C km.1 = adr σ C k := V.ref.inj (Option.some.inj (Option.some.inj g2))
            cases r2
            refine ⟨_, xs, j, n, rfl, rfl, by rw [ea]; exact hx, by rw [hr.length]; exact e2, ?_⟩
            rw [ea]
            obtain ⟨o3, st3⟩ := o2.updL g1 (Rps.set (r1.mono st2.s1) n hr)
            exact p2 _ _ _ _ o3 st3
        | _ => exact p2.elim
    | _ => exact p2.elim
/-! ### slices -/
def pCut (l : List PV) (lo hi : Option Int) : List PV := (l.drop (HT.sIx l.length 0 lo)).take (HT.sIx l.length l.length hi - HT.sIx l.length 0 lo)
theorem Rps.cut {F : Hp} {xs : List V} {l : List PV} (r : Rps C F xs l) (lo hi : Option Int) : Rps C F (cutV xs lo hi) (pCut l lo hi) := by
  unfold cutV pCut
  rw [r.length]
  exact (r.drop _).take _
structure DP (X : Cx) (C : Fx) (W : WX) (e : Option Expr) (f : Stt → Res (Option Int)) : Prop where
  pr : ∃ te, PO X e te ∧ ∀ F A H σ s Q, OkF C F A H σ s → Post C W (fun _ _ (a b : Option Int) => a = b) F A H σ (f s) Q → te σ H Q
def pNo : Stt → Res (Option Int) := fun s => .ok none s
def pSo (f : Stt → Res PV) : Stt → Res (Option Int) := fun s => (f s).bind fun p s1 => match p with
  | .int i => .ok (some i) s1
  | _ => .stuck
theorem dp_none : DP X C W none pNo := ⟨_, po_none, fun F A H σ s Q o p => Post.now o p rfl⟩
theorem dp_some (h : DV X C W e fe) : DP X C W (some e) (pSo fe) := by
  obtain ⟨te, pe, qe⟩ := h.pr
  refine ⟨_, po_some pe, fun F A H σ s Q o p => ?_⟩
  refine qe F A H σ s _ o (p.seq fun q s1 v F1 A1 H1 _ o1 st1 r1 p1 => ?_)
  cases r1 with
  | int i => exact ⟨i, rfl, Post.now o1 p1 rfl⟩
  | _ => exact p1.elim
end
/-! ### built-ins -/
def pAbs : List PV → Option PV
  | [.int i] => some (.int (if i < 0 then -i else i))
  | _ => none
def pMax2 : List PV → Option PV
  | [.int i, .int j] => some (.int (if j > i then j else i))
  | _ => none
def pMin2 : List PV → Option PV
  | [.int i, .int j] => some (.int (if j < i then j else i))
  | _ => none
def pLen : List PV → Option PV
  | [.lst l] => some (.int l.length)
  | [.tup l] => some (.int l.length)
  | [.scr l] => some (.int l.length)
  | [.str z] => if z.length ≤ 16777216 then some (.int z.length) else none
  | _ => none
def pInt1 : List PV → Option PV
  | [.int i] => some (.int i)
  | [.bl b] => some (.int (if b then 1 else 0))
  | _ => none
def allInt : List PV → Option (List Int)
  | [] => some []
  | .int i :: r => (allInt r).map (i :: ·)
  | _ :: _ => none
def allBl : List PV → Option (List Bool)
  | [] => some []
  | .bl i :: r => (allBl r).map (i :: ·)
  | _ :: _ => none
theorem allInt_eq : ∀ {l : List PV} {ns : List Int}, allInt l = some ns → l = ns.map PV.int
  | [], ns, h => by cases h; rfl
  | .int i :: r, ns, h => by
    unfold allInt at h
    cases e : allInt r with
    | none => rw [e] at h; cases h
    | some ms => rw [e] at h; cases h; rw [allInt_eq e]; rfl
  | .non :: _, _, h => by cases h
  | .bl _ :: _, _, h => by cases h
  | .str _ :: _, _, h => by cases h
  | .tup _ :: _, _, h => by cases h
  | .lst _ :: _, _, h => by cases h
  | .scr _ :: _, _, h => by cases h
  | .ins _ _ :: _, _, h => by cases h
  | .fnp :: _, _, h => by cases h
  | .exi _ _ :: _, _, h => by cases h
  | .dcv _ _ :: _, _, h => by cases h
theorem allBl_eq : ∀ {l : List PV} {ns : List Bool}, allBl l = some ns → l = ns.map PV.bl
  | [], ns, h => by cases h; rfl
  | .bl i :: r, ns, h => by
    unfold allBl at h
    cases e : allBl r with
    | none => rw [e] at h; cases h
    | some ms => rw [e] at h; cases h; rw [allBl_eq e]; rfl
  | .non :: _, _, h => by cases h
  | .int _ :: _, _, h => by cases h
  | .str _ :: _, _, h => by cases h
  | .tup _ :: _, _, h => by cases h
  | .lst _ :: _, _, h => by cases h
  | .scr _ :: _, _, h => by cases h
  | .ins _ _ :: _, _, h => by cases h
  | .fnp :: _, _, h => by cases h
  | .exi _ _ :: _, _, h => by cases h
  | .dcv _ _ :: _, _, h => by cases h
theorem Rps.bls {C : Fx} {F : Hp} : ∀ {vs : List V} {ns : List Bool}, Rps C F vs (ns.map PV.bl) → vs = ns.map V.bl
  | [], [], _ => rfl
  | _ :: _, n :: ns, .cons (.bl _) r => by rw [List.map_cons, Rps.bls (ns := ns) r]
def pAny : List PV → Option PV
  | [.lst l] => (allBl l).map fun ns => .bl (ns.any id)
  | _ => none
def pAll : List PV → Option PV
  | [.lst l] => (allBl l).map fun ns => .bl (ns.all id)
  | _ => none
def maxI : List Int → Int
  | [] => 0
  | [x] => x
  | x :: r => max x (maxI r)
def minI : List Int → Int
  | [] => 0
  | [x] => x
  | x :: r => min x (minI r)
theorem maxI_mem : ∀ {l : List Int}, l ≠ [] → maxI l ∈ l ∧ ∀ y ∈ l, y ≤ maxI l
  | [], h => absurd rfl h
  | [x], _ => ⟨List.mem_cons_self, fun y hy => by rw [List.mem_singleton] at hy; subst hy; exact Int.le_refl _⟩
  | x :: y :: r, _ => by
    obtain ⟨h1, h2⟩ := maxI_mem (l := y :: r) (by simp)
    have e : maxI (x :: y :: r) = max x (maxI (y :: r)) := rfl
    rw [e]
    refine ⟨?_, fun z hz => ?_⟩
    · by_cases h : x ≤ maxI (y :: r)
      · rw [Int.max_eq_right h]; exact List.mem_cons_of_mem _ h1
      · rw [Int.max_eq_left (by omega)]; exact List.mem_cons_self
    · rcases List.mem_cons.mp hz with q | q
      · subst q; exact Int.le_max_left _ _
      · exact Int.le_trans (h2 z q) (Int.le_max_right _ _)
theorem minI_mem : ∀ {l : List Int}, l ≠ [] → minI l ∈ l ∧ ∀ y ∈ l, minI l ≤ y
  | [], h => absurd rfl h
  | [x], _ => ⟨List.mem_cons_self, fun y hy => by rw [List.mem_singleton] at hy; subst hy; exact Int.le_refl _⟩
  | x :: y :: r, _ => by
    obtain ⟨h1, h2⟩ := minI_mem (l := y :: r) (by simp)
    have e : minI (x :: y :: r) = min x (minI (y :: r)) := rfl
    rw [e]
    refine ⟨?_, fun z hz => ?_⟩
    · by_cases h : x ≤ minI (y :: r)
      · rw [Int.min_eq_left h]; exact List.mem_cons_self
      · rw [Int.min_eq_right (by omega)]; exact List.mem_cons_of_mem _ h1
    · rcases List.mem_cons.mp hz with q | q
      · subst q; exact Int.min_le_left _ _
      · exact Int.le_trans (Int.min_le_right _ _) (h2 z q)
def pMax1 : List PV → Option PV
  | [.lst l] => match allInt l with
    | some (x :: r) => some (.int (maxI (x :: r)))
    | _ => none
  | _ => none
def pMin1 : List PV → Option PV
  | [.lst l] => match allInt l with
    | some (x :: r) => some (.int (minI (x :: r)))
    | _ => none
  | _ => none
section
variable {X : Cx} {C : Fx}
theorem rps1 {F : Hp} {x : List V} {p : PV} (r : Rps C F x [p]) : ∃ v, x = [v] ∧ Rp C F v p := by
  cases r with
  | cons h t => cases t; exact ⟨_, rfl, h⟩
theorem rps2 {F : Hp} {x : List V} {p q : PV} (r : Rps C F x [p, q]) : ∃ v u, x = [v, u] ∧ Rp C F v p ∧ Rp C F u q := by
  cases r with
  | cons h t =>
    obtain ⟨u, rfl, hu⟩ := rps1 t
    exact ⟨_, u, rfl, h, hu⟩
theorem c_abs : CallD C (fun xs H Q => ∃ i, xs = [.int i] ∧ Q (.int (if i < 0 then -i else i)) H) pAbs := by
  intro F A H σ s x p z Q o r e k
  unfold pAbs at e
  split at e
  · cases e
    obtain ⟨v, rfl, h⟩ := rps1 r
    cases h
    exact ⟨_, rfl, k _ F A H o .refl (.int _)⟩
  · cases e
theorem c_max2 : CallD C (fun xs H Q => ∃ i j, xs = [.int i, .int j] ∧ Q (.int (if j > i then j else i)) H) pMax2 := by
  intro F A H σ s x p z Q o r e k
  unfold pMax2 at e
  split at e
  · cases e
    obtain ⟨v, u, rfl, h, h'⟩ := rps2 r
    cases h; cases h'
    exact ⟨_, _, rfl, k _ F A H o .refl (.int _)⟩
  · cases e
theorem c_min2 : CallD C (fun xs H Q => ∃ i j, xs = [.int i, .int j] ∧ Q (.int (if j < i then j else i)) H) pMin2 := by
  intro F A H σ s x p z Q o r e k
  unfold pMin2 at e
  split at e
  · cases e
    obtain ⟨v, u, rfl, h, h'⟩ := rps2 r
    cases h; cases h'
    exact ⟨_, _, rfl, k _ F A H o .refl (.int _)⟩
  · cases e
theorem c_len {K : PySem.W.Frag} (hK : K = C.K) : CallD C (fun xs H Q => ∃ x n, xs = [x] ∧ LenV K x H n ∧ Q (.int n) H) pLen := by
  intro F A H σ s x p z Q o r e k
  unfold pLen at e
  split at e
  · cases e
    obtain ⟨v, rfl, h⟩ := rps1 r
    cases h with
    | @lst a xs l h1 h2 => exact ⟨_, _, rfl, .inl ⟨xs, .of (o.sub _ _ h1), rfl⟩, by rw [h2.length]; exact k _ F A H o .refl (.int _)⟩
  · cases e
    obtain ⟨v, rfl, h⟩ := rps1 r
    cases h with
    | @tup a xs l h1 h2 => exact ⟨_, _, rfl, .inr ⟨xs, by rw [hK]; exact sqT_mono o.sub h1, rfl⟩, by rw [h2.length]; exact k _ F A H o .refl (.int _)⟩
  · cases e
    obtain ⟨v, rfl, h⟩ := rps1 r
    cases h with
    | @scr a xs l h1 h2 => exact ⟨_, _, rfl, .inl ⟨xs, by rw [hK]; exact o.sub.seq h1, rfl⟩, by rw [h2.length]; exact k _ F A H o .refl (.int _)⟩
  · split at e
    · rename_i hl
      cases e
      obtain ⟨v, rfl, h⟩ := rps1 r
      cases h
      exact ⟨_, _, rfl, ⟨line_le hl, rfl⟩, k _ F A H o .refl (.int _)⟩
    · cases e
  · cases e
theorem lst_at {K : PySem.W.Frag} {F H : Hp} {x : List V} {l : List PV} (sm : Same F H) (hK : K = C.K) (r : Rps C F x [.lst l]) : ∃ a xs, x = [.ref a] ∧ SqL K H a xs ∧ Rps C F xs l := by
  obtain ⟨v, rfl, h⟩ := rps1 r
  cases h with
  | @lst a xs l h1 h2 => exact ⟨a, xs, rfl, .of (sm _ _ h1), h2⟩
theorem c_any {K : PySem.W.Frag} (hK : K = C.K) : CallD C (rAny K) pAny := by
  intro F A H σ s x p z Q o r e k
  unfold pAny at e
  split at e
  · rename_i l
    cases h : allBl l with
    | none => rw [h] at e; cases e
    | some ns =>
      rw [h] at e; cases e
      obtain ⟨a, xs, rfl, h1, h2⟩ := lst_at o.sub hK r
      rw [allBl_eq h] at h2
      have := h2.bls
      subst this
      exact ⟨a, ns, rfl, h1, k _ F A H o .refl (.bl _)⟩
  · cases e
theorem c_all {K : PySem.W.Frag} (hK : K = C.K) : CallD C (rAll K) pAll := by
  intro F A H σ s x p z Q o r e k
  unfold pAll at e
  split at e
  · rename_i l
    cases h : allBl l with
    | none => rw [h] at e; cases e
    | some ns =>
      rw [h] at e; cases e
      obtain ⟨a, xs, rfl, h1, h2⟩ := lst_at o.sub hK r
      rw [allBl_eq h] at h2
      have := h2.bls
      subst this
      exact ⟨a, ns, rfl, h1, k _ F A H o .refl (.bl _)⟩
  · cases e
theorem c_max1 {K : PySem.W.Frag} (hK : K = C.K) : CallD C (rMax K) pMax1 := by
  intro F A H σ s x p z Q o r e k
  unfold pMax1 at e
  split at e
  · rename_i l
    split at e
    · rename_i y t h
      cases e
      obtain ⟨a, xs, rfl, h1, h2⟩ := lst_at o.sub hK r
      rw [allInt_eq h] at h2
      have := h2.ints
      subst this
      refine ⟨a, y :: t, rfl, h1, by simp, fun m hm hy => ?_⟩
      obtain ⟨q1, q2⟩ := maxI_mem (l := y :: t) (by simp)
      have : m = maxI (y :: t) := Int.le_antisymm (q2 m hm) (hy _ q1)
      rw [this]
      exact k _ F A H o .refl (.int _)
    · cases e
  · cases e
theorem c_min1 {K : PySem.W.Frag} (hK : K = C.K) : CallD C (rMin K) pMin1 := by
  intro F A H σ s x p z Q o r e k
  unfold pMin1 at e
  split at e
  · rename_i l
    split at e
    · rename_i y t h
      cases e
      obtain ⟨a, xs, rfl, h1, h2⟩ := lst_at o.sub hK r
      rw [allInt_eq h] at h2
      have := h2.ints
      subst this
      refine ⟨a, y :: t, rfl, h1, by simp, fun m hm hy => ?_⟩
      obtain ⟨q1, q2⟩ := minI_mem (l := y :: t) (by simp)
      have : m = minI (y :: t) := Int.le_antisymm (hy _ q1) (q2 m hm)
      rw [this]
      exact k _ F A H o .refl (.int _)
    · cases e
  · cases e
end
end PL
/-! PL10: more stores, repr, calls with keywords, more walks. -/
namespace PL
open PySem PySem.Spec PyProof.Rows L2
section
variable {X : Cx} {C : Fx} {W : WX} {a b e tg : Expr} {es : List Expr} {pos : Pos} {fa : Stt → Res (List PV)} {fe : Stt → Res PV}
/-- a, b = x, y -/
def gPar (i j : Nat) (fa : Stt → Res (List PV)) : Stt → Fl := fun s => (fa s).fl fun l s1 => match l with
  | [p, q] => .nx (setV j q (setV i p s1))
  | _ => .stuck
def gPar3 (i j l : Nat) (fa : Stt → Res (List PV)) : Stt → Fl := fun s => (fa s).fl fun l' s1 => match l' with
  | [p, q, r] => .nx (setV l r (setV j q (setV i p s1)))
  | _ => .stuck
theorem ds_par {i j : Nat} {x y : Str} {px py pt : Pos} {kt k2 pt2} (hc : X.calm = true) (hN : X.N.Nodup) (hi : X.N[i]? = some x) (hj : X.N[j]? = some y) (hij : i ≠ j)
    (hx : X.env.scope.names.lookup x = some .local) (hy : X.env.scope.names.lookup y = some .local) (ha : DA X C W [a, b] fa)
    (hw : swappedStores [.Tuple [.Name x px, .Name y py] kt pt] (.Tuple [a, b] k2 pt2) X.env = pure (some [x, y]))
    (hs : swapsWithSole [.Tuple [.Name x px, .Name y py] kt pt] (.Tuple [a, b] k2 pt2) pos.line X.env = pure false := by rfl) :
    DS X C W (.Assign [.Tuple [.Name x px, .Name y py] kt pt] (.Tuple [a, b] k2 pt2) pos) (gPar i j fa) := by
  obtain ⟨ta, pa, qa⟩ := ha.pr
  refine ⟨_, ps_par hc hN hi hj hij hx hy pa hw hs, fun F A H σ s D o p => ?_⟩
  refine qa F A H σ s _ o (PostS.seq p fun l s1 vs F1 A1 H1 _ o1 st1 r1 p1 => ?_)
  cases r1 with
  | nil => exact p1.elim
  | cons r r' =>
    cases r' with
    | nil => exact p1.elim
    | cons q q' =>
      cases q' with
      | cons _ _ => exact p1.elim
      | nil =>
        refine ⟨_, _, rfl, ?_⟩
        obtain ⟨o2, st2⟩ := o1.setV (i := i) r
        obtain ⟨o3, st3⟩ := o2.setV (i := j) q
        exact p1 _ _ _ _ o3 (st2.trans st3)
/-- a list unpacked into names -/
def aLst (n : Nat) (b : List PV → Stt → Option Stt) : PV → Stt → Option Stt
  | .lst l, s => if l.length = n then b l s else none
  | _, _ => none
/-- x += e, x a local name -/
def gAug (i : Nat) (f : PV → PV → Option PV) (fe : Stt → Res PV) : Stt → Fl := fun s => match s.ro[i]? with
  | some (some (.val p)) => (fe s).fl fun q s1 => match f p q with
    | some z => .nx (setV i z s1)
    | none => .stuck
  | _ => .stuck
theorem ds_aug {i : Nat} {x : Str} {op : Operator} {ti : TIp} {f : PV → PV → Option PV} {pos' : Pos} (hN : X.N.Nodup) (hi : X.N[i]? = some x) (hx : Loc X.env.scope x) (he : DV X C W e fe) (ho : PIp X op ti)
    (hd : ∀ F A H σ s x y p q z (Q : VK), OkF C F A H σ s → Rp C F x p → Rp C F y q → f p q = some z → (∀ v F' A' H', OkF C F' A' H' σ s → Step C F A H F' A' H' → Rp C F' v z → Q v H') → ti x y H Q)
    (hf : X.fn x = true ∨ X.env.scope.names.lookup x = some .local := by first | exact .inl rfl | exact .inr rfl | assumption) : DS X C W (.AugAssign (.Name x pos') op e pos) (gAug i f fe) := by
  obtain ⟨te, pe, qe⟩ := he.pr
  refine ⟨_, ps_aug hN hi hx pe ho hf, fun F A H σ s D o p => ?_⟩
  unfold gAug at p
  split at p
  · rename_i v e0
    obtain ⟨u, h1, h2⟩ := o.val i v e0
    refine ⟨u, h1, ?_⟩
    refine qe F A H σ s _ o (PostS.seq p fun q s1 y F1 A1 H1 _ o1 st1 r1 p1 => ?_)
    cases e1 : f v q with
    | none => rw [e1] at p1; exact p1.elim
    | some z =>
      rw [e1] at p1
      refine hd F1 A1 H1 σ s1 u y v q z _ o1 (h2.mono st1.s1) r1 e1 fun w F2 A2 H2 o2 st2 r2 => ?_
      obtain ⟨o3, st3⟩ := o2.setV (i := i) r2
      exact p1 _ _ _ _ o3 (st2.trans st3)
  · exact p.elim
def pAddI : PV → PV → Option PV
  | .int i, .int j => some (.int (i + j))
  | _, _ => none
theorem d_ipadd : ∀ F A H σ s x y p q z (Q : VK), OkF C F A H σ s → Rp C F x p → Rp C F y q → pAddI p q = some z → (∀ v F' A' H', OkF C F' A' H' σ s → Step C F A H F' A' H' → Rp C F' v z → Q v H') → ipI (fun i j => i + j) x y H Q := by
  intro F A H σ s x y p q z Q o r1 r2 e k
  unfold pAddI at e
  split at e
  · cases e; cases r1; cases r2
    exact ⟨_, _, rfl, rfl, k _ F A H o .refl (.int _)⟩
  · cases e
end
/-! ### repr -/
/-! ### calls with keywords -/
/-- the items of a list by their places -/
def permL {α : Type} (perm : List Nat) (l : List α) : List α := perm.filterMap fun i => l[i]?
section
variable {X : Cx} {C : Fx} {W : WX} {a b c e tg : Expr} {es : List Expr} {kws : List Keyword} {pos p : Pos} {fa fk : Stt → Res (List AV)} {f : Addr} {fd : FuncData} {ps ks : List Str} {k n : Nat} {perm : List Nat} {m : List SV → List MO → FRes} {x : Str} {nm : Option Str} {kpos : Pos} {fe : Stt → Res PV}
theorem RAs.append {σ : L2.St} {F : Hp} {vs vs2 : List V} {as as2 : List AV} (r : RAs C σ F vs as) (r2 : RAs C σ F vs2 as2) : RAs C σ F (vs ++ vs2) (as ++ as2) := by
  induction r with
  | nil => exact r2
  | pv h _ ih => exact .pv h ih
  | sl h _ ih => exact .sl h ih
/-- the values of a call with keywords, in the parameters' order -/
def avK (n m : Nat) (perm : List Nat) (fa fk : Stt → Res (List AV)) : Stt → Res (List AV) := fun s => (fa s).bind fun l s1 => (fk s1).bind fun z s2 => if l.length = n ∧ z.length = m then .ok (permL perm (l ++ z)) s2 else .stuck
end
end PL
/-! PL11: walks over a list or a tuple, range with a step, enumerate, zip, list(range), slices of either. -/
namespace PL
open PySem PySem.Spec PyProof.Rows L2
section
variable {X : Cx} {C : Fx} {W : WX} {a b c e tg : Expr} {es tgs : List Expr} {pos : Pos} {fe fb : Stt → Res PV} {fa : Stt → Res (List PV)}
/-- a list or a tuple is walked -/
def iEith (K : PySem.W.Frag) (tl : TE) : TI := fun σ H R => tl σ H fun x H1 => ∃ a, x = .ref a ∧ (((∃ xs, SqL K H1 a xs) ∧ R (Itl K a) H1) ∨ ((∃ xs, SqT K H1 a xs) ∧ R (Itt K a) H1))
theorem pi_eith {tl : TE} (hl : PE X e tl) : PI X tg e (iEith X.K tl) := by
  refine ⟨?_⟩
  intro pins s σ H R I h
  refine thn (hl.run pins s σ H _ I h) ?_
  rintro v s1 ⟨x, H1, I1, r1, a, rfl, q⟩
  cases r1
  have new : H1 s1.heap.objs.size = none := I1.hok.fresh (Nat.le_refl _)
  have fp : ∀ b ∈ [s1.heap.objs.size], FpOk X pins H1 b := by
    intro b hb
    rw [List.mem_singleton] at hb
    rw [hb]
    exact I1.fpOk (Nat.le_refl _) new
  rcases q with ⟨⟨xs, hq⟩, q⟩ | ⟨⟨xs, hq⟩, q⟩
  · obtain ⟨its, _, p, _⟩ := I1.list hq
    refine wpAny_pyIter_list p.isList ⟨_, [s1.heap.objs.size], _, _, H1, rfl, I1.kept (t' := s1.toks) (fun b o => Heap.get?_push_of_some _), turn_list a _, ?_, fp, q⟩
    exact ⟨_, Heap.get?_push_size _ rfl, rfl, rfl⟩
  · obtain ⟨its, _, p, _⟩ := I1.tuple hq
    refine wpAny_pyIter_tuple (show s1.heap.IsTuple a its.toArray from p) ⟨_, [s1.heap.objs.size], _, _, H1, rfl, I1.kept (t' := s1.toks) (fun b o => Heap.get?_push_of_some _), turn_tuple a _, ?_, fp, q⟩
    exact ⟨_, Heap.get?_push_size _ rfl, rfl, rfl⟩
def iAny (fe : Stt → Res PV) : Stt → Res (List PV) := fun s => (fe s).bind fun p s1 => match p with
  | .lst l => .ok l s1
  | .tup l => .ok l s1
  | .scr l => .ok l s1
  | _ => .stuck
theorem di_any (hK : X.K = C.K) (he : DV X C W e fe) : DI X C W tg e (iAny fe) := by
  obtain ⟨te, pe, qe⟩ := he.pr
  refine ⟨_, pi_eith pe, fun F A H σ s Q o p => ?_⟩
  refine qe F A H σ s _ o (p.seq fun a s1 v F1 A1 H1 _ o1 st1 r1 p1 => ?_)
  cases r1 with
  | @lst b xs l h1 h2 =>
    have hS : ∀ H2, Same F1 H2 → SqL X.K H2 b xs := fun H2 sm => .inl (.inl (sm _ _ h1))
    have hw : Walk (Itl X.K b) l.length (fun H => SqL X.K H b xs) (YAt xs) := by rw [← h2.length]; exact walk_list
    exact ⟨b, rfl, .inl ⟨⟨xs, hS H1 o1.sub⟩, Post.now o1 p1 ⟨_, _, hw, hS, yat_ok h2⟩⟩⟩
  | @scr b xs l h1 h2 =>
    have hS : ∀ H2, Same F1 H2 → SqL X.K H2 b xs := fun H2 sm => by rw [hK]; exact sm.seq h1
    have hw : Walk (Itl X.K b) l.length (fun H => SqL X.K H b xs) (YAt xs) := by rw [← h2.length]; exact walk_list
    exact ⟨b, rfl, .inl ⟨⟨xs, hS H1 o1.sub⟩, Post.now o1 p1 ⟨_, _, hw, hS, yat_ok h2⟩⟩⟩
  | @tup b xs l h1 h2 =>
    have hS : ∀ H2, Same F1 H2 → SqT X.K H2 b xs := fun H2 sm => by rw [hK]; exact sqT_mono sm h1
    have hw : Walk (Itt X.K b) l.length (fun H => SqT X.K H b xs) (YAt xs) := by rw [← h2.length]; exact walk_tup
    exact ⟨b, rfl, .inr ⟨⟨xs, hS H1 o1.sub⟩, Post.now o1 p1 ⟨_, _, hw, hS, yat_ok h2⟩⟩⟩
  | _ => exact p1.elim
/-- range(i, j, c) -/
def rngC (i c : Int) (n : Nat) : List PV := (List.range n).map fun k : Nat => PV.int (i + k * c)
def okR3 (i j c : Int) : Bool := decide (c ≠ 0 ∧ c.natAbs < 1073741824 ∧ Builtin.Range.small i j c = true)
def iRange3 (fa : Stt → Res (List PV)) : Stt → Res (List PV) := fun s => (fa s).bind fun p s1 => match p with
  | [.int i, .int j, .int c] => if okR3 i j c = true ∧ 0 ≤ Builtin.Range.rangeSize i j c then .ok (rngC i c (Builtin.Range.rangeSize i j c).toNat) s1 else .stuck
  | _ => .stuck
def zipP (x y : List PV) : List PV := List.zipWith (fun p q => PV.tup [p, q]) x y
def enumP (x : List PV) : List PV := zipP ((List.range x.length).map fun i : Nat => PV.int i) x
theorem enumP_len (x : List PV) : (enumP x).length = x.length := by simp [enumP, zipP]
theorem enum_ok {F : Hp} {xs : List V} {l : List PV} (hr : Rps C F xs l) : ∀ i F1 A1 H1 σ s x H2 p, OkF C F1 A1 H1 σ s → Same F F1 → YPair (fun i => some (V.int (i : Nat))) (fun i => xs[i]?) i H1 x H2 → (enumP l)[i]? = some p → ∃ F2, OkF C F2 A1 H2 σ s ∧ Step C F1 A1 H1 F2 A1 H2 ∧ Rp C F2 x p := by
  rintro i F1 A1 H1 σ s x H2 p o sm ⟨T, u, v, rfl, hT, rfl, h1, h2⟩ hp
  have h1 : some (V.int (i : Nat)) = some u := h1
  cases h1
  obtain ⟨r', e4, r4⟩ := hr.getV h2
  have hi : i < l.length := (List.getElem?_eq_some_iff.mp e4).1
  have ep : p = .tup [.int i, r'] := by
    unfold enumP zipP at hp
    rw [List.getElem?_zipWith] at hp
    simp [hi] at hp
    rw [← hp, List.getElem?_eq_getElem hi] at *
    cases e4
    rfl
  subst ep
  obtain ⟨o2, st2⟩ := o.alloc (o := .tup [.int i, v]) hT
  exact ⟨_, o2, st2, .tup (.of upd_same) (.cons (.int _) (.cons (r4.mono (sm.trans st2.s1)) .nil))⟩
/-- a slice of a list, a tuple, the script -/
def eSl (fa : Stt → Res PV) (fl fh : Stt → Res (Option Int)) : Stt → Res PV := fun s => (fa s).bind fun p s1 => (fl s1).bind fun lo s2 => (fh s2).bind fun hi s3 => match p with
  | .tup l => .ok (.tup (pCut l lo hi)) s3
  | .lst l => .ok (.lst (pCut l lo hi)) s3
  | .scr l => .ok (.lst (pCut l lo hi)) s3
  | _ => .stuck
theorem dv_sl {lo hi : Option Expr} {fl fh : Stt → Res (Option Int)} {p2 : Pos} (hK : X.K = C.K) (ha : DV X C W a fe) (hl : DP X C W lo fl) (hh : DP X C W hi fh) : DV X C W (.Subscript a (.Slice lo hi none p2) pos) (eSl fe fl fh) := by
  obtain ⟨ta, pa, qa⟩ := ha.pr
  obtain ⟨tl, pl, ql⟩ := hl.pr
  obtain ⟨th, ph, qh⟩ := hh.pr
  refine ⟨_, pe_slice (sl_tupA.or sl_list) pa pl ph, fun F A H σ s Q o p => ?_⟩
  refine qa F A H σ s _ o (p.seq fun q1 s1 v1 F1 A1 H1 _ o1 st1 r1 p1 => ?_)
  refine ql F1 A1 H1 σ s1 _ o1 (p1.seq fun l2 s2 v2 F2 A2 H2 _ o2 st2 r2 p2 => ?_)
  refine qh F2 A2 H2 σ s2 _ o2 (p2.seq fun l3 s3 v3 F3 A3 H3 _ o3 st3 r3 p3 => ?_)
  have r2 : v2 = l2 := r2
  have r3 : v3 = l3 := r3
  subst r2 r3
  have rm := r1.mono (st2.s1.trans st3.s1)
  cases rm with
  | @tup b xs l h1 h2 =>
    refine .inl ⟨b, xs, rfl, by rw [hK]; exact sqT_mono o3.sub h1, fun hw => ?_, fun _ q hq => ?_⟩
    · have e : cutV xs v2 v3 = xs := by
        unfold cutV
        rw [hw.1, hw.2]
        simp
      have rc := h2.cut v2 v3
      rw [e] at rc
      exact p3 _ F3 A3 H3 o3 .refl (.tup h1 rc)
    · obtain ⟨o4, st4⟩ := o3.alloc (o := .tup (cutV xs v2 v3)) hq
      exact p3 _ _ _ _ o4 st4 (.tup (.of upd_same) ((h2.cut v2 v3).mono st4.s1))
  | @lst b xs l h1 h2 =>
    refine .inr ⟨b, xs, rfl, .of (o3.sub _ _ h1), fun q hq => ?_⟩
    obtain ⟨o4, st4⟩ := o3.alloc (o := .lst (cutV xs v2 v3)) hq
    exact p3 _ _ _ _ o4 st4 (.lst upd_same ((h2.cut v2 v3).mono st4.s1))
  | @scr b xs l h1 h2 =>
    refine .inr ⟨b, xs, rfl, by rw [hK]; exact o3.sub.seq h1, fun q hq => ?_⟩
    obtain ⟨o4, st4⟩ := o3.alloc (o := .lst (cutV xs v2 v3)) hq
    exact p3 _ _ _ _ o4 st4 (.lst upd_same ((h2.cut v2 v3).mono st4.s1))
  | _ => exact p3.elim
/-- list(range(n)), list(range(i, j)) -/
noncomputable def oRg (i j : Int) (s : Stt) : Res MO := if (inR i && inR j) = true ∧ j - i ≤ 16777216 then .ok (.lst (rng i (j - i).toNat)) s else .stuck
noncomputable def oRg1 (fa : Stt → Res PV) : Stt → Res MO := fun s => (fa s).bind fun p s1 => match p with
  | .int j => oRg 0 j s1
  | _ => .stuck
noncomputable def oRg2 (fa fb : Stt → Res PV) : Stt → Res MO := fun s => (fa s).bind fun p s1 => (fb s1).bind fun q s2 => match p, q with
  | .int i, .int j => oRg i j s2
  | _, _ => .stuck
end
end PL
/-! PL12: a list grows; a pair of a value and a new list. -/
namespace PL
open PySem PySem.Spec PyProof.Rows L2
section
variable {X : Cx} {C : Fx} {W : WX} {a b e : Expr} {pos : Pos} {fa fb fe : Stt → Res PV} {fo : Stt → Res MO}
def gParO (i j : Nat) (fa : Stt → Res PV) (fo : Stt → Res MO) : Stt → Fl := fun s => (fa s).fl fun p s1 => (fo s1).fl fun m s2 => if j < s2.ro.length then .nx (setV i p (setO j m s2)) else .stuck
def gApp (i : Nat) (fe : Stt → Res PV) : Stt → Fl := fun s => (getM s i).elim .stuck fun km => match km.2 with
  | .lst _ => (fe s).fl fun p s1 => match getM s1 i with
    | some (k, .lst l) => if l.length < 16777216 then .nx (setK s1 k (.lst (l ++ [p]))) else .stuck
    | _ => .stuck
  | _ => .stuck
theorem ds_app (i : Nat) {x : Str} {p p2 p3 : Pos} (he : DV X C W e fe) (hN : X.N[i]? = some x := by rfl) (hvis : Vis X.env.scope x := by first | exact Or.inl rfl | exact Or.inr (Or.inl rfl) | exact Or.inr (Or.inr rfl)) (hd : (x == ("__debug__" : Str)) = false := by decide)
    (hcd : (x == ("__classdict__" : Str)) = false := by decide) (hs : swapsWith (.Call (.Attribute (.Name x p) "append" p2) [e] [] p3) none pos.line X.env = pure false := by rfl)
    (hbase : attributeBase (.Name x p) "append" X.env (eval (.Name x p) X.env) = eval (.Name x p) X.env := by rfl)
    (hfew : ((backTo p3 (starEach [e] X.env)).all (fun x => !x.1) && (backToKw p3 (keywordEach [] X.env)).all (fun x => x.1.isSome)
      && decide (([e] : List Expr).length + ([] : List Keyword).length + (if ([] : List Keyword).isEmpty then 0 else 1) < 30)) = true := by rfl)
    (hline : (p2.endLine == p3.line) = true := by rfl) (hst : starEach [e] X.env = (false, eval e X.env) :: starEach [] X.env := by rfl) (hplain : (backTo p3 (starEach [] X.env)).any (·.1) = false := by rfl) :
    DS X C W (.Expr (.Call (.Attribute (.Name x p) "append" p2) [e] [] p3) pos) (gApp i fe) := by
  obtain ⟨te, pe, qe⟩ := he.pr
  refine ⟨_, ps_expr (pe_bm PySem.F.plainAttrs_list PySem.F.slot_list_append PySem.F.type_list_append mt_append (pe_var (i := i) hN hvis hd hcd) (pa_cons pe pa_nil hst) hbase hfew hline hst hplain) hs, fun F A H σ s D o pp => ?_⟩
  cases e0 : getM s i with
  | none => unfold gApp at pp; rw [e0] at pp; exact pp.elim
  | some km =>
    obtain ⟨k0, m0⟩ := km
    unfold gApp at pp
    rw [e0] at pp
    simp only [Option.elim_some] at pp
    cases m0 with
    | lst l0 =>
      simp only at pp
      obtain ⟨_, g0, ⟨_, xs0, hx0, _⟩⟩ := mut_at o e0
      refine ⟨_, g0, .inl ⟨rfl, _, SqL.of hx0⟩, ?_⟩
      refine qe F A H σ s _ o (PostS.seq pp fun pv s1 xv F1 A1 H1 _ o1 st1 r1 p1 => ?_)
      cases e1 : getM s1 i with
      | none => simp only [e1] at p1; exact p1.elim
      | some km2 =>
        obtain ⟨k, m⟩ := km2
        simp only [e1] at p1
        cases m with
        | lst l =>
          simp only at p1
          split at p1
          · rename_i hl
            obtain ⟨g1, g2, g3⟩ := mut_at o1 e1
            obtain ⟨_, xs, hx, hr⟩ := g3
            rw [g0] at g2
            have ea : adr σ C k0 = adr σ C k := V.ref.inj (Option.some.inj (Option.some.inj g2))
            refine ⟨_, xs, xv, rfl, rfl, by rw [ea]; exact hx, by rw [hr.length]; exact hl, ?_⟩
            rw [ea]
            obtain ⟨o3, st3⟩ := o1.updL g1 (Rps.append hr (.cons r1 .nil))
            exact p1 _ _ _ _ o3 st3
          · exact p1.elim
        | _ => exact p1.elim
    | _ => exact pp.elim
end
end PL
/-! PXE: an own error whose __init__ says super().__init__(value) and keeps value; its classes' classes. -/
namespace PXE
open PySem PySem.W PySem.Calls PyProof.Rows PySem.HandSPX
def xA (p1 p2 : Pos) : Arguments := { posonlyargs := [], args := [{ arg := "self", annotation := none, pos := p1 }, { arg := "value", annotation := none, pos := p2 }], vararg := none, kwonlyargs := [], kw_defaults := [], kwarg := none, defaults := [] }
abbrev xC (n : Nat) : Expr := .Call (.Attribute (.Call (.Name "super" ⟨n, 8, n, 13⟩) [] [] ⟨n, 8, n, 15⟩) "__init__" ⟨n, 8, n, 24⟩) [.Name "value" ⟨n, 25, n, 30⟩] [] ⟨n, 8, n, 31⟩
def xB (n : Nat) (q1 q2 q3 q4 : Pos) : List Stmt := [.Expr (xC n) ⟨n, 8, n, 31⟩, .Assign [.Attribute (.Name "self" q1) "value" q2] (.Name "value" q3) q4]
def xS : Scope := { kind := .function, names := [(PySem.Str.ofString "self", .local), (PySem.Str.ofString "value", .local), (PySem.Str.ofString "__class__", .free), (PySem.Str.ofString "super", .globalImplicit)], isGenerator := false, isCoroutine := false, more := [] }
abbrev veBm : List Value := [.type "ValueError", .type "Exception", .type "BaseException", .type "object"]
/-- what the written part says of an error class nm at C; D: the class whose __init__ stands at fI -/
structure ErrTxt (prog : Program) (K : Frag) (mg : Str → Option Value) (nm : Str) (C D fI : Addr) : Prop where
  gC : mg nm = some (.ref C)
  cls : ∃ n q N bs bm sn sub ab col dd k0 k1 k2 k3 k5, K.lookup C = some (excClassObj n q C N bs bm true sn sub ab col dd k0 k1 k2 k3 k5 "ValueError.__new__") ∧ refsVE bm = true
  sa : findIn K (.ref C) "__setattr__" = some (some (.builtin "object.__setattr__"))
  ga : findIn K (.ref C) "__getattribute__" = some (some (.builtin "BaseException.__getattribute__"))
  gg : findIn K (.ref C) "__getattr__" = some none
  noN : findIn K (.ref C) "value" = some none
  iC : findIn K (.ref C) "__init__" = some (some (.ref fI))
  tC : typeIn K (.ref fI) = some (.type "function")
  kC : keepIn K (.ref C) = true
  exC : subIn K (.ref C) (.type "BaseException") = some true
  veC : subIn K (.ref C) (.type "ValueError") = some true
  tyC : typeIn K (.ref C) = some (.type "type")
  hdC : hasDictIn K C = true
  te : exmOne K (.ref C) (.ref C) = some true
  sup : ks_superIn K C D "__init__" = some (some (.builtin "ValueError.__init__"))
  any : nsIn K cStatics "thirdparty.any" = some none
  mroD : mroIn K C (.ref D) = some true
  clsD : ∃ cdD, clsIn K D = some cdD
  nsup : mg "super" = none
  top : (prog.main.scope.names.lookup ("super" : Str)).isSome = false
  fn : ∃ (oc : Value) (od : Option Addr) (doc pm : Value) (an : Option Addr) (cda cc : Addr) (ct : Value) (osl : Array (Option Value)) (n : Nat) (p1 p2 q1 q2 q3 q4 : Pos) (ccl cl : Value) (cdd cld : Option Addr) (vs : Array Value) (ccs csl : Array (Option Value)) (file : Str) (tf : Tok),
    K.lookup fI = some ⟨oc, od, .func (ksFn "__init__" "StrideError.__init__" (xA p1 p2) (xB n q1 q2 q3 q4) xS .none .none doc pm an (.ref cda) ct cc), osl⟩ ∧ codeIn K (.ref cda) "StrideError.__init__" = true ∧
    K.lookup cda = some ⟨ccl, cdd, .fields vs, ccs⟩ ∧ vs[2]? = some (.str file tf) ∧ ((prog.main.file : Str) == file) = true ∧ K.lookup cc = some ⟨cl, cld, .cell (some (.ref D)), csl⟩ ∧ (n = 5 ∨ n = 8)
theorem one_len (v : Value) : [v].length ≤ sizeLine := by
  rw [sizeLine_eq]
  exact (by decide : 1 ≤ 16777216)
section
variable {prog : Program} {w : World} {A : Around} {E : Value → Shared → Prop} {R : Result → Shared → Prop} {s : Shared} {K : Frag} {mg mb : Str → Option Value} {nm : Str} {C D fI : Addr}
/-- the built-in __init__, bound to x at u, called: the args are laid anew -/
theorem bound_call (T : ErrTxt prog K mg nm C D fI) {u x t0 : Addr} {v : Value} {Q : Value → Shared → Prop} (X : K.In s.heap) (hx : s.heap.get? x = some (excO C t0)) (hu : s.heap.get? u = some (kxs_mw "ValueError.__init__" x))
    (hq : ∀ h', (∀ b o, b ≠ x → s.heap.get? b = some o → h'.get? b = some o) → h'.get? x = some (excO C s.heap.objs.size) → Q .none { s with heap := h' }) :
    wpAny (model prog w) A (call (.ref u) [v]) Q E s := by
  obtain ⟨n, q, N, bs, bm, sn, sub, ab, col, dd, k0, k1, k2, k3, k5, hC, hbm⟩ := T.cls
  obtain ⟨hp, g, d, tk, os⟩ := s
  refine wpAny_call (codeAny_of_tree ?_)
  show wpAny _ A.in1 (callAny (.ref u) ⟨[v], []⟩) _ _ _
  unfold callAny
  refine wpAny_bind (wpAny_load hu ?_)
  have e1 : (Value.type "method-wrapper" == Value.type "method" || Value.type "method-wrapper" == Value.type "builtin_function_or_method" || Value.type "method-wrapper" == Value.type "method-wrapper") = true := by decide
  dsimp only [kxs_mw]
  rw [if_pos e1]
  refine KFB.if_so (by decide) (wpAny_bind (check_bound_init F.excBase_ValueError.toExcCallFacts (X _ _ hC) hx rfl (wpAny_bind (wpAny_pure (wpAny_pure ⟨plainId_quiet F.excBase_ValueError.init.plain _, codeAny_builtin F.excBase_ValueError.initEntry ?_⟩)))))
  exact exc_init_tree (cls := .ref C) (t0 := t0) (dv := none) (c2 := .none) (c3 := .none) (b4 := .bool false) hx (one_len v) fun h' k' e' _ => hq h' k' e'
/-- what __init__ leaves of a fresh exception at x -/
structure Left (h h' : Heap) (x C dx t1 : Addr) (v : Value) : Prop where
  keep : ∀ b o, b ≠ x → h.get? b = some o → h'.get? b = some o
  obj : h'.get? x = some { cls := .ref C, dict := some dx, data := .fields #[.ref t1, .none, .none, .none, .bool false, .none] }
  dbig : h.objs.size ≤ dx
  dne : dx ≠ x
  ns : h'.Ns1 dx (fun y => if y = "value" then some v else none)
theorem locC {M : Model} {env : Env} {m : Str → Option Value} {x : Str} {pos : Pos} {v : Value} {Q : Value → Shared → Prop} (hn : s.heap.Ns env.locals m) (hv : m x = some v) (h : Q v s)
    (hk : env.scope.kind = .function := by rfl) (hl : env.kindOf x = some .local := by rfl) (hd : (x == ("__debug__" : Str)) = false := by decide) :
    wpAny M A (eval (.Name x pos) env) Q E s := wpAny_Name (wpAny_loadName_local hk hl hn hv h) hd
theorem err_init (T : ErrTxt prog K mg nm C D fI) {x t0 : Addr} {v : Value} {args : Args} (hba : args = ⟨[.ref x, v], []⟩ ∨ args = ⟨[.ref x], [("value", v)]⟩) (X : K.In s.heap) (hg : s.heap.Ns mainGlobals mg) (hb : s.heap.Ns builtinsNs mb) (hbt : ∀ y : Str, y ≠ "__name__" → mb y = bootBuiltins y) (hlim : s.heap.NoLimit) (hx : s.heap.get? x = some (excO C t0)) (hnx : K.lookup x = none) (hroom : A.depth < recursionLimit)
    (hq : ∀ h' tk dx t1, Left s.heap h' x C dx t1 v → R (.ok (.ret .none)) { s with heap := h', toks := tk }) :
    codeAny (model prog w) A (.call (.ref fI) args) R s := by
  obtain ⟨oc, od, doc, pm, an, cda, cc, ct, osl, n, p1, p2, q1, q2, q3, q4, ccl, cl, cdd, cld, vs, ccs, csl, file, tf, ho, hcd, hcode, hvs, hfile, hcell, hnn⟩ := T.fn
  obtain ⟨nn, q, N, bs, bm, sn, sub, ab, col, dd, k0, k1, k2, k3, k5, hC, hbm⟩ := T.cls
  have hcl : clsIn K C = some { name := nn, bases := bs, mro := .ref C :: bm, ns := N, qualname := q, hasDict := true, slotNames := sn, subclasses := sub, abstract := ab, collection := col, hasDel := false } := by unfold clsIn; rw [hC] <;> rfl
  have hsup : alongIn K "__init__" (((Value.ref C :: bm).dropWhile (· != .ref D)).drop 1) = some (some (.builtin "ValueError.__init__")) := by
    have z := T.sup
    unfold ks_superIn at z
    rw [hcl, Option.bind_some] at z
    exact z
  obtain ⟨cdD, hD⟩ := T.clsD
  have c1 : ∀ y ∈ xS.names, y.2 ≠ .cell := by decide
  have c2 : ∀ y ∈ [(("self" : Str), Value.ref x), ("value", v)], xS.names.lookup y.1 = some .local := by
    intro y hy
    rcases List.mem_cons.mp hy with rfl | hy
    · exact (by decide +kernel : xS.names.lookup ("self" : Str) = some .local)
    · rcases List.mem_cons.mp hy with rfl | hy
      · exact (by decide +kernel : xS.names.lookup ("value" : Str) = some .local)
      · cases hy
  refine ks_codeAny_call_defAt (fd := ksFn "__init__" "StrideError.__init__" (xA p1 p2) (xB n q1 q2 q3 q4) xS .none .none doc pm an (.ref cda) ct cc) (body := xB n q1 q2 q3 q4) (binds := [("self", .ref x), ("value", v)])
    hroom (X _ _ ho) rfl hlim (codeRec_of X hcd) rfl (BindsTo.of_eq (by rcases hba with rfl | rfl <;> first | rfl | with_unfolding_all rfl)) c1 c2 (fun h₁ hn k => ?_)
  have X₁ : K.In h₁ := X.keeps k
  have hxL : s.heap.objs.size ≠ x := Nat.ne_of_gt (Heap.lt_size hx)
  have hx₁ := k _ _ hx
  have hLz : s.heap.objs.size < h₁.objs.size := hn.lt
  obtain ⟨oD, hD1, hD2⟩ : ∃ oD, h₁.get? D = some oD ∧ oD.data = .cls cdD := by
    unfold clsIn at hD
    split at hD
    · rename_i c d cd' sl hoD
      cases hD
      exact ⟨_, X₁ _ _ hoD, rfl⟩
    · cases hD
  have hxC : x ≠ C := by
    intro z
    have e := X _ _ hC
    rw [← z, hx] at e
    cases e
  -- super().__init__(value)
  obtain ⟨pl, he⟩ : ∃ pl : Sem Bool, eval (xC n) (ksEnv "StrideError.__init__" xS s.heap.objs.size fI (.ref cda) cc) = (do
      let ov ← attributeBase (.Call (.Name "super" ⟨n, 8, n, 13⟩) [] [] ⟨n, 8, n, 15⟩) "__init__" (ksEnv "StrideError.__init__" xS s.heap.objs.size fI (.ref cda) cc) (eval (.Call (.Name "super" ⟨n, 8, n, 13⟩) [] [] ⟨n, 8, n, 15⟩) (ksEnv "StrideError.__init__" xS s.heap.objs.size fI (.ref cda) cc))
      standAt (Pos.atName ⟨n, 8, n, 24⟩)
      let (f, first) ← holding [ov] (getMethod ov "__init__" pl)
      callWith ⟨n, 8, n, 31⟩ f first (backTo ⟨n, 8, n, 31⟩ (starEach [.Name "value" ⟨n, 25, n, 30⟩] (ksEnv "StrideError.__init__" xS s.heap.objs.size fI (.ref cda) cc))) []) := by
    rcases hnn with rfl | rfl <;> exact ⟨_, rfl⟩
  refine ks_wpAt_execs_cons (ks_wpAt_Expr_any (ks_wpAt_MethodCall (pl := pl) ?_ he))
  refine ks_wpAt_super_base (env := ksEnv "StrideError.__init__" xS s.heap.objs.size fI (.ref cda) cc) rfl rfl rfl rfl (X₁ _ _ ho) rfl rfl rfl (X₁ _ _ hcode) rfl hvs hfile T.top ?_
  refine ks_loadName_global rfl rfl (loadGlobal_builtin (env := ksEnv "StrideError.__init__" xS s.heap.objs.size fI (.ref cda) cc) (hg.keeps k) T.nsup (hb.keeps k) ((hbt _ (by decide +kernel)).trans (by first | rfl | kernel_rfl | decide +kernel)) ⟨rfl, ?_⟩)
  refine wpAny_loadName_free rfl rfl rfl ⟨_, X₁ _ _ hcell, rfl⟩ ?_
  refine wpAny_loadName_local rfl rfl hn (by first | rfl | with_unfolding_all rfl | kernel_rfl) ?_
  refine ks_wpAny_isType_cls hD1 hD2 ⟨rfl, ?_⟩
  refine ks_wpAny_call_super hD1 hD2 hx₁ rfl (fun c e => by cases e) (looks_mroIn X₁ T.mroD) (fun h2 e2 k2 => ?_)
  have kk : ∀ b o, s.heap.get? b = some o → h2.get? b = some o := fun b o e => k2 b o (k b o e)
  have X₂ : K.In h2 := X.keeps kk
  have I₂ : InstAt h2 x (excO C t0) C none := ⟨k2 _ _ hx₁, rfl, rfl, trivial⟩
  refine kxs_getMethod (K := K) (C := C) (D := D) kxs_ValueError e2 (looks_opaque X₂ T.any) (l₀ := .ref C :: bm) (l := ((Value.ref C :: bm).dropWhile (· != .ref D)).drop 1) (fun A Q E s k q => wpAny_bind ((looks_clsIn X₂ hcl) A _ E s k (wpAny_pure q))) rfl X₂ hsup (I₂.type.andThen (looks_subIn X₂ T.veC)) hxC rfl ?_
  have hu : (h2.push (kxs_mw "ValueError.__init__" x)).get? h2.objs.size = some (kxs_mw "ValueError.__init__" x) := Heap.get?_push_at rfl rfl
  have k3 : ∀ b o, s.heap.get? b = some o → (h2.push (kxs_mw "ValueError.__init__" x)).get? b = some o := fun b o e => Heap.get?_push_of_some _ (kk b o e)
  have hn3 : (h2.push (kxs_mw "ValueError.__init__" x)).Ns s.heap.objs.size (fun y => [(("self" : Str), Value.ref x), ("value", v)].reverse.lookup y) := hn.keeps fun b o e => Heap.get?_push_of_some _ (k2 b o e)
  refine kxs_callWith (i := "ValueError.__init__") (x := x) rfl (Calls.evalArgs_plain (Calls.spliced_cons (locC (v := v) hn3 (by first | rfl | with_unfolding_all rfl | kernel_rfl) (Calls.spliced_nil ⟨hu, ?_⟩))))
  refine bound_call T (s := ⟨h2.push (kxs_mw "ValueError.__init__" x), _, _, _, _⟩) (X.keeps k3) (k3 _ _ hx) hu (fun h4 k4 hx4 => ?_)
  -- self.value = value
  have hxs : x ≠ s.heap.objs.size := Ne.symm hxL
  have k5 : ∀ b o, b ≠ x → s.heap.get? b = some o → h4.get? b = some o := fun b o hb e => k4 b o hb (k3 b o e)
  have X₄ : K.In h4 := fun a o e => k5 a o (fun z => by rw [z, hnx] at e; cases e) (X a o e)
  have hn4 : h4.Ns s.heap.objs.size (fun y => [(("self" : Str), Value.ref x), ("value", v)].reverse.lookup y) := by
    obtain ⟨oL, es, ep, hL, r⟩ := hn3
    exact ⟨oL, es, ep, k4 _ _ hxL hL, r⟩
  refine ks_wpAt_execs_cons (ks_wpAt_Assign_Attr (wpAt_of_wpAny (locC (v := v) hn4 (by first | rfl | with_unfolding_all rfl | kernel_rfl) (locC (v := .ref x) hn4 (by first | rfl | with_unfolding_all rfl | kernel_rfl) ?_))))
  refine set_plain X₄ (ox := excO C _) (od := none) ⟨hx4, rfl, rfl, trivial⟩ T.sa ?_
  refine exc_osa X₄ hx4 hcl (show refsVE (.ref C :: bm) = true from hbm) rfl T.noN (fun h6 tk6 dx k6 dn dne hx6 hn6 => ?_)
  refine wpAt_of_wpAny (wpAny_execs_nil (hq h6 tk6 dx _ ⟨fun b o hb e => k6 b o hb (k5 b o hb e), hx6, ?_, dne, hn6⟩))
  exact Nat.le_of_lt (Nat.lt_of_lt_of_le hn4.lt dn)
/-- a made error -/
structure Made (h h' : Heap) (e C d : Addr) (v : Value) : Prop where
  keep : ∀ b o, h.get? b = some o → h'.get? b = some o
  new : h.objs.size ≤ e
  obj : ∃ oe vs, h'.get? e = some oe ∧ oe.cls = .ref C ∧ oe.dict = some d ∧ oe.data = .fields vs ∧ vs[1]? = some .none ∧ vs[2]? = some .none
  dbig : h.objs.size ≤ d
  dne : d ≠ e
  ns : h'.Ns1 d (fun y => if y = "value" then some v else none)
theorem err_made (T : ErrTxt prog K mg nm C D fI) {v : Value} (X : K.In s.heap) (hg : s.heap.Ns mainGlobals mg) (hb : s.heap.Ns builtinsNs mb) (hbt : ∀ y : Str, y ≠ "__name__" → mb y = bootBuiltins y) (hlim : s.heap.NoLimit) (hroom : A.depth + 1 < recursionLimit)
    (hq : ∀ h' tk e d, Made s.heap h' e C d v → R (.ok (.ret (.ref e))) { s with heap := h', toks := tk }) :
    codeAny (model prog w) A (.call (.ref C) ⟨[v], []⟩) R s := by
  obtain ⟨nn, q, N, bs, bm, sn, sub, ab, col, dd, k0, k1, k2, k3, k5, hC, hbm⟩ := T.cls
  obtain ⟨hp, g, dr, tk, os⟩ := s
  have k : ∀ b o, hp.get? b = some o → ((hp.push (kdv_tup [v])).push (excO C hp.objs.size)).get? b = some o := fun b o e => Heap.get?_push_of_some _ (Heap.get?_push_of_some _ e)
  have hget : ((hp.push (kdv_tup [v])).push (excO C hp.objs.size)).get? (hp.objs.size + 1) = some (excO C hp.objs.size) := by heap_get
  have hnx : K.lookup (hp.objs.size + 1) = none := by
    cases e : K.lookup (hp.objs.size + 1) with
    | none => rfl
    | some o => exact absurd (Nat.lt_of_succ_lt (Heap.lt_size (show hp.get? (hp.objs.size + 1) = some o from X _ _ e))) (Nat.lt_irrefl _)
  refine call_own F.excBase_ValueError (fun Y => refsVE_contains Y bm hbm) (X _ _ hC) (looks_findIn X T.iC) (fun self => bind_fn X self T.tC) (one_len v) ?_
  refine err_init (s := ⟨(hp.push (kdv_tup [v])).push (excO C hp.objs.size), g, dr, tk, os⟩) T (.inl rfl) (X.keeps k) (hg.keeps k) (hb.keeps k) hbt (hlim.keeps k) hget hnx hroom fun h' tk' dx t1 L => ?_
  obtain ⟨k', hx, dn, dne, hns⟩ := L
  have old : ∀ b o, hp.get? b = some o → h'.get? b = some o := fun b o e => k' b o (Nat.ne_of_lt (Nat.lt_succ_of_lt (Heap.lt_size e))) (k b o e)
  have z : hp.objs.size ≤ dx := by
    have q := dn
    rw [Heap.size_push, Heap.size_push] at q
    omega
  exact ⟨rfl, hq h' tk' (hp.objs.size + 1) dx ⟨old, Nat.le_succ _, ⟨_, _, hx, rfl, rfl, rfl, rfl, rfl⟩, z, dne, hns⟩⟩
end
end PXE
/-! PL13: raise E(v), E an own error. -/
namespace PL
open PySem PySem.Spec PyProof.Rows L2
theorem rel_err {v : V} {v' : Value} (r : RelV v v') (f : Str) : RelO (List.lookup f [(("value" : Str), v)]) (if f = "value" then some v' else none) := by
  by_cases hw : f = "value"
  · subst hw
    rw [if_pos rfl, show List.lookup ("value" : Str) [(("value" : Str), v)] = some v by simp [List.lookup]]
    exact r
  · rw [if_neg hw, show List.lookup f [(("value" : Str), v)] = none by simp [List.lookup, show (f == ("value" : Str)) = false by simpa using hw]]
    trivial
section
variable {X : Cx} {Cc D fI : Addr} {nm : Str}
/-- E(e) -/
def tMkErr (Cc : Addr) (ta : TA) : L2.St → Hp → XK → Prop := fun σ H Q => ta σ H fun vs H1 => ∃ v, vs = [v] ∧ ∀ d, H1 d = none → Q (.ref Cc) (some d) (upd H1 d (.xd [(("value" : Str), v)]))
theorem pmk_err {a : Expr} {ta : TA} {p pos : Pos} {k : Nat} (T : PXE.ErrTxt X.prog X.K X.mg nm Cc D fI) (hr : Room k X.A) (ha : PA X [a] ta) (hg : Gl X nm) (hdb : (nm == ("__debug__" : Str)) = false)
    (he : starEach (a :: []) X.env = (false, eval a X.env) :: starEach [] X.env := by rfl) (hpl : (backTo pos (starEach [] X.env)).any (·.1) = false := by rfl) :
    L2N.PMk X (.Call (.Name nm p) [a] [] pos) (tMkErr Cc ta) := by
  intro pins s σ H Q I h
  refine wpAny_Call_Name_kw (ld_glob I hg T.gC ?_ hdb)
  refine PySem.W.callWith_K (h₀ := X.base) I.ok.mod.kin T.kC (thn (ha.run pos pins s σ H _ I h) fun us s1 hh => ?_) he hpl
  obtain ⟨vs, H1, I1, r1, v, ev, q1⟩ := hh
  subst ev
  refine ⟨I1.kIn, ?_⟩
  cases r1 with
  | cons rv rn =>
    rename_i v' us'
    cases rn
    show wpAny _ _ (call (.ref Cc) [v']) _ _ _
    have hlim := I1.nolimit
    obtain ⟨mb, hb1, hb2⟩ := I1.mod.blt
    have hgl := I1.mod.glob.keeps I1.bk
    have hbl := hb1.keeps I1.bk
    have hK := I1.kIn
    obtain ⟨hp, g, dr, tk, os⟩ := s1
    refine wpAny_call (PXE.err_made T hK hgl hbl hb2 hlim (by have := hr.dp; omega) fun h' tk' e d M => ?_)
    show L2N.MkP X pins σ Q (.ref e) ⟨h', g, dr, tk', os⟩
    obtain ⟨oe, fv, hoe, hc, hd, hdat, h1, h1c⟩ := M.obj
    have hns := M.ns
    obtain ⟨G', g1, g2⟩ := restrict h' fun b => decide (b ≠ e)
    have gk : ∀ b, b ≠ e → G'.get? b = h'.get? b := fun b hb => g1 b (decide_eq_true hb)
    have ge : G'.get? e = none := g2 e (by simp)
    have old : ∀ b o, hp.get? b = some o → G'.get? b = some o := fun b o q => (gk b (Nat.ne_of_lt (Nat.lt_of_lt_of_le (Heap.lt_size q) M.new))).trans (M.keep b o q)
    have ob : ObjOk X.prog X.w (upd H1 d (.xd [(("value" : Str), v)])) G' d (.xd [(("value" : Str), v)]) := ⟨_, hns.at (fun o q => (gk d M.dne).trans q), fun f => rel_err rv f⟩
    have J : Inv X pins σ (upd H1 d (.xd [(("value" : Str), v)])) ⟨G', g, dr, tk', os⟩ := I1.laid (t' := tk') old M.dbig ob
    refine ⟨e, oe, fv, ⟨G', g, dr, tk', os⟩, _, .ref Cc, some d, rfl, J, fun b o q => ?_, ge, hoe, ⟨hc, hd, fun vs e => by rw [hdat] at e; cases e; exact h1c⟩, hdat, h1, ?_, rfl, I1.bare, raises_own T.exC T.tyC, q1 d (I1.hok.fresh M.dbig)⟩
    · by_cases hb : b = e
      · have q' : G'.get? b = some o := q
        rw [hb, ge] at q'; cases q'
      · exact (gk b hb).symm.trans q
    · rw [upd_ne (Ne.symm M.dne)]
      exact I1.hok.fresh M.new
end
section
variable {X : Cx} {C : Fx} {W : WX} {e : Expr} {fe : Stt → Res PV} {pos pos2 : Pos} {Cc D fI : Addr} {nm : Str}
def gRaise (nm : Str) (fe : Stt → Res PV) : Stt → Fl := fun s => (fe s).fl fun p s1 => .ex nm p s1
theorem ds_raise {p : Pos} {k : Nat} (hc : X.calm = true) (T : PXE.ErrTxt X.prog X.K X.mg nm Cc D fI) (hr : Room k X.A) (tk : L2N.Takes X W) (hcl : C.cl nm = Cc) (he : DV X C W e fe) (hg : Gl X nm := by rfl) (hdb : (nm == ("__debug__" : Str)) = false := by decide)
    (h1 : starEach (e :: []) X.env = (false, eval e X.env) :: starEach [] X.env := by rfl) (hpl : (backTo pos (starEach [] X.env)).any (·.1) = false := by rfl) :
    DS X C W (.Raise (some (.Call (.Name nm p) [e] [] pos)) none pos2) (gRaise nm fe) := by
  obtain ⟨te, pe, qe⟩ := he.pr
  refine ⟨_, L2N.ps_raise hc tk (pmk_err T hr (pa_cons pe pa_nil h1) hg hdb h1 hpl), fun F A H σ s D o pp => ?_⟩
  refine qe F A H σ s _ o (PostS.seq pp fun pv s1 xv F1 A1 H1 _ o1 st1 r1 p1 => ?_)
  refine ⟨xv, rfl, fun d hd => ?_⟩
  obtain ⟨o2, st2⟩ := o1.alloc (o := .xd [(("value" : Str), xv)]) hd
  rw [← hcl]
  exact p1 d σ _ _ _ o2 st2 ⟨xv, upd_same, r1.mono st2.s1⟩
end
end PL
namespace PL
open PySem PySem.Spec PyProof.Rows L2
/-- where nothing is let out -/
theorem takesN {X : Cx} : L2N.Takes X (fun _ _ _ _ => False) := by
  rintro u s' ⟨_, _, _, _, _, _, _, _, _, _, _, _, _, _, _, _, w⟩
  exact w.elim
end PL
/-! PL14: the written part's facts of an error class. -/
namespace PXE
open PySem PySem.W PySem.Calls PyProof.Rows PySem.HandSPX
/-- where a class of the module lies -/
def clOf (K : Frag) (nm : Str) : Addr := match nsIn K mainGlobals nm with
  | some (some (.ref a)) => a
  | _ => 0
theorem clOf_at {K : Frag} {nm : Str} {C : Addr} (h : nsIn K mainGlobals nm = some (some (.ref C))) : clOf K nm = C := by
  unfold clOf
  rw [h]
theorem exm_of {K : Frag} {S T : Addr} (h1 : subIn K (.ref S) (.type "BaseException") = some true) (h2 : isClsIn K S = true) (h3 : typeIn K (.ref S) = some (.type "type")) {b : Bool} (h4 : subIn K (.ref T) (.ref S) = some b) : exmOne K (.ref T) (.ref S) = some b := by
  have e1 : (subIn K (.ref S) (.type "BaseException") == some true) = true := by rw [h1] <;> rfl
  have e2 : ((clsIn K S).isSome && typeIn K (.ref S) == some (.type "type")) = true := by
    have h2' : (clsIn K S).isSome = true := h2
    rw [h2', h3] <;> rfl
  show (if (subIn K (.ref S) (.type "BaseException") == some true) = true then (if ((clsIn K S).isSome && typeIn K (.ref S) == some (.type "type")) = true then subIn K (.ref T) (.ref S) else none) else none) = some b
  rw [if_pos e1, if_pos e2]
  exact h4
theorem along_ve (K : Frag) : alongIn K "__init__" veBm = some (some (.builtin "ValueError.__init__")) := by kernel_rfl
theorem sup_of {K : Frag} {C D N : Addr} {n q : Str} {bs : List Value} {sn : List Str} {sub : List Value} {ab : Bool} {col : Option Bool} {dd : Option Addr} {k0 k1 k2 k3 k5 : Option Value}
    (xC : K.lookup C = some (excClassObj n q C N bs (.ref D :: veBm) true sn sub ab col dd k0 k1 k2 k3 k5 "ValueError.__new__")) (ne : (Value.ref C != Value.ref D) = true) : ks_superIn K C D "__init__" = some (some (.builtin "ValueError.__init__")) := by
  have hcl : clsIn K C = some { name := n, bases := bs, mro := .ref C :: .ref D :: veBm, ns := N, qualname := q, hasDict := true, slotNames := sn, subclasses := sub, abstract := ab, collection := col, hasDel := false } := by unfold clsIn; rw [xC] <;> rfl
  unfold ks_superIn
  rw [hcl, Option.bind_some]
  have e : ((Value.ref C :: Value.ref D :: veBm).dropWhile (· != .ref D)).drop 1 = veBm := by
    rw [List.dropWhile_cons, if_pos ne, List.dropWhile_cons, if_neg (by simp)]
    rfl
  show alongIn K "__init__" (((Value.ref C :: Value.ref D :: veBm).dropWhile (· != .ref D)).drop 1) = _
  rw [e]
  exact along_ve K
theorem err_mk {prog : Program} {K : Frag} {h : Heap} {mg : Str → Option Value} {nm : Str} (X : K.In h) (G : h.Ns mainGlobals mg) {C D fI cda cc N : Addr} {n q file : Str} {bs : List Value} {sn : List Str} {sub : List Value} {ab : Bool} {col : Option Bool} {dd od an cdd cld : Option Addr} {k0 k1 k2 k3 k5 : Option Value}
    {oc doc pm ct ccl cl : Value} {osl ccs csl : Array (Option Value)} {ln : Nat} {p1 p2 q1 q2 q3 q4 : Pos} {vs : Array Value} {tf : Tok}
    (aC : nsIn K mainGlobals nm = some (some (.ref C)))
    (xC : K.lookup C = some (excClassObj n q C N bs (.ref D :: veBm) true sn sub ab col dd k0 k1 k2 k3 k5 "ValueError.__new__")) (ne : (Value.ref C != Value.ref D) = true)
    (sa : findIn K (.ref C) "__setattr__" = some (some (.builtin "object.__setattr__"))) (ga : findIn K (.ref C) "__getattribute__" = some (some (.builtin "BaseException.__getattribute__"))) (gg : findIn K (.ref C) "__getattr__" = some none) (nv : findIn K (.ref C) "value" = some none)
    (iC : findIn K (.ref C) "__init__" = some (some (.ref fI))) (tC : typeIn K (.ref fI) = some (.type "function"))
    (l1 : K.lookup fI = some ⟨oc, od, .func (ksFn "__init__" "StrideError.__init__" (xA p1 p2) (xB ln q1 q2 q3 q4) xS .none .none doc pm an (.ref cda) ct cc), osl⟩) (c1 : codeIn K (.ref cda) "StrideError.__init__" = true)
    (lc : K.lookup cda = some ⟨ccl, cdd, .fields vs, ccs⟩) (hv : vs[2]? = some (.str file tf)) (hf : ((prog.main.file : Str) == file) = true) (lcc : K.lookup cc = some ⟨cl, cld, .cell (some (.ref D)), csl⟩) (hln : ln = 5 ∨ ln = 8)
    (kC : keepIn K (.ref C) = true) (eC : subIn K (.ref C) (.type "BaseException") = some true) (vC : subIn K (.ref C) (.type "ValueError") = some true) (yC : typeIn K (.ref C) = some (.type "type")) (hC : hasDictIn K C = true) (isC : isClsIn K C = true) (sC : subIn K (.ref C) (.ref C) = some true)
    (ny : nsIn K cStatics "thirdparty.any" = some none) (mD : mroIn K C (.ref D) = some true) (isD : isClsIn K D = true) (zs : nsIn K mainGlobals "super" = some none) (tp : (prog.main.scope.names.lookup ("super" : Str)).isSome = false) :
    ErrTxt prog K mg nm C D fI :=
  { gC := mg_of X G aC, cls := ⟨n, q, N, bs, .ref D :: veBm, sn, sub, ab, col, dd, k0, k1, k2, k3, k5, xC, rfl⟩, sa := sa, ga := ga, gg := gg, noN := nv, iC := iC, tC := tC, kC := kC, exC := eC, veC := vC, tyC := yC, hdC := hC, te := exm_of eC isC yC sC,
    sup := sup_of xC ne, any := ny, mroD := mD, clsD := by
      have z : (clsIn K D).isSome = true := isD
      exact Option.isSome_iff_exists.mp z,
    nsup := mg_none_of X G zs, top := tp,
    fn := ⟨oc, od, doc, pm, an, cda, cc, ct, osl, ln, p1, p2, q1, q2, q3, q4, ccl, cl, cdd, cld, vs, ccs, csl, file, tf, l1, c1, lc, hv, hf, lcc, hln⟩ }
end PXE
/-! PL15: tuple(x), list(x). -/
namespace PL
open PySem PySem.Spec PyProof.Rows L2
section
variable {X : Cx} {C : Fx} {W : WX} {e : Expr} {fe : Stt → Res PV} {pos : Pos}
/-- tuple(e), e a list or a tuple -/
def eTupV (fe : Stt → Res PV) : Stt → Res PV := fun s => (fe s).bind fun p s1 => match p with
  | .lst l => .ok (.tup l) s1
  | .tup l => .ok (.tup l) s1
  | _ => .stuck
theorem dv_tupV {p2 : Pos} (hK : X.K = C.K) (he : DV X C W e fe) (hg : Gl X "tuple") (hm : X.mg "tuple" = none) (h1 : starEach [e] X.env = (false, eval e X.env) :: starEach [] X.env := by rfl) (hpl : (backTo pos (starEach [] X.env)).any (·.1) = false := by rfl) :
    DV X C W (.Call (.Name "tuple" p2) [e] [] pos) (eTupV fe) := by
  obtain ⟨te, pe, qe⟩ := he.pr
  refine ⟨_, pe_callTy call_tuple_of hg hm (by first | rfl | kernel_rfl | decide +kernel) (pa_cons pe pa_nil h1) (he := h1) (hpl := hpl), fun F A H σ s Q o pp => ?_⟩
  refine qe F A H σ s _ o (pp.seq fun q1 s1 v1 F1 A1 H1 _ o1 st1 r1 p1 => ?_)
  cases r1 with
  | @lst a xs l h2 h3 =>
    refine ⟨a, xs, rfl, .inl ⟨.of (o1.sub _ _ h2), fun q hq => ?_⟩⟩
    obtain ⟨o2, st2⟩ := o1.alloc (o := .tup xs) hq
    exact p1 _ _ _ _ o2 st2 (.tup (.of L2.upd_same) (h3.mono st2.s1))
  | @tup a xs l h2 h3 =>
    refine ⟨a, xs, rfl, .inr ⟨?_, ?_⟩⟩
    · rw [hK]; exact sqT_mono o1.sub h2
    · exact p1 _ _ _ _ o1 .refl (.tup h2 h3)
  | _ => exact p1.elim
end
end PL
/-! PL16: a list of the state is given away (the name is not read again). -/
namespace PL
open PySem PySem.Spec PyProof.Rows L2
section
variable {X : Cx} {C : Fx} {W : WX} {pos : Pos}
def oMv (i : Nat) : Stt → Res MO := fun s => match s.ro[i]? with
  | some (some (.own m)) => .ok m ⟨s.ro.set i none, s.mu⟩
  | _ => .stuck
theorem OkF.mv {F H : Hp} {A : Nat → List Addr} {σ : L2.St} {s : Stt} {i : Nat} {m : MO} (o : OkF C F A H σ s) (e : s.ro[i]? = some (some (SV.own m))) :
    ∃ p, σ[i]? = some (some (.ref p)) ∧ OkF C F (dropA A i) H σ ⟨s.ro.set i none, s.mu⟩ ∧ Step C F A H F (dropA A i) H ∧ Fresh C F A H F (dropA A i) H p m := by
  obtain ⟨p, h1, h2⟩ := o.own i m e
  have sub : ∀ j b, b ∈ dropA A i j → b ∈ A j := fun j b hb => by
    unfold dropA at hb
    split at hb
    · cases hb
    · exact hb
  have get : ∀ (j : Nat) (x : SV), (s.ro.set i none)[j]? = some (some x) → j ≠ i ∧ s.ro[j]? = some (some x) := fun j x h => by
    by_cases hj : j = i
    · subst hj
      rw [List.getElem?_set_self (List.getElem?_eq_some_iff.mp e).1] at h
      cases h
    · rw [List.getElem?_set_ne (Ne.symm hj)] at h
      exact ⟨hj, h⟩
  have eqA : ∀ j, j ≠ i → dropA A i j = A j := fun j hj => by unfold dropA; rw [if_neg hj]
  refine ⟨p, h1, ⟨?_, o.sub, fun j v h => o.val j v (get j _ h).2, fun j m' h => ?_, o.nb, fun j k h => o.lent j k (get j _ h).2, o.bor, fun j b hb => o.free j b (sub j b hb), fun j k b hj hk => o.dis j k b (sub j b hj) (sub k b hk), fun k b hk hb => ⟨(o.freeB k b hk hb).1, fun j hj => (o.freeB k b hk hb).2 j (sub j b hj)⟩, o.disB, o.ext⟩,
    ⟨fun _ _ h => h, fun _ h => .inl h, fun b ⟨j, hj⟩ => .inl ⟨j, sub j b hj⟩, fun b u h _ _ _ => h, fun b h => h⟩, A i, h2, fun b hb => ⟨(o.free i b hb).1, fun ⟨j, hj⟩ => ?_, fun ⟨k, hk, hkb⟩ => (o.freeB k b hk hkb).2 i hb, .inr ⟨i, hb⟩⟩⟩
  · rw [o.len]; exact (List.length_set).symm
  · obtain ⟨hj, h⟩ := get j _ h
    rw [eqA j hj]
    exact o.own j m' h
  · have := o.dis j i b (sub j b hj) hb
    subst this
    unfold dropA at hj
    rw [if_pos rfl] at hj
    cases hj
theorem do_mv (i : Nat) {x : Str} {p : Pos} (hN : X.N[i]? = some x := by rfl) (hvis : Vis X.env.scope x := by first | exact Or.inl rfl | exact Or.inr (Or.inl rfl) | exact Or.inr (Or.inr rfl)) (hd : (x == ("__debug__" : Str)) = false := by decide)
    (hcd : (x == ("__classdict__" : Str)) = false := by decide) : DO X C W (.Name x p) (oMv i) := by
  refine ⟨_, pe_var (i := i) hN hvis hd hcd, fun F A H σ s Q o pp => ?_⟩
  unfold oMv at pp
  split at pp
  · rename_i m e
    obtain ⟨q, h1, o2, st, fr⟩ := o.mv e
    exact ⟨_, h1, pp q _ _ _ o2 st fr⟩
  · exact pp.elim
end
end PL
/-! PL17: x.extend(e). -/
namespace PL
open PySem PySem.Spec PyProof.Rows L2
section
variable {X : Cx} {C : Fx} {W : WX} {e : Expr} {pos : Pos} {fe : Stt → Res PV}
def gExt (i : Nat) (fe : Stt → Res PV) : Stt → Fl := fun s => (getM s i).elim .stuck fun km => match km.2 with
  | .lst _ => (fe s).fl fun p s1 => match p, getM s1 i with
    | .lst z, some (k, .lst l) => if l.length + z.length ≤ 16777216 then .nx (setK s1 k (.lst (l ++ z))) else .stuck
    | _, _ => .stuck
  | _ => .stuck
theorem ds_ext (i : Nat) {x : Str} {p p2 p3 : Pos} (he : DV X C W e fe) (hN : X.N[i]? = some x := by rfl) (hvis : Vis X.env.scope x := by first | exact Or.inl rfl | exact Or.inr (Or.inl rfl) | exact Or.inr (Or.inr rfl)) (hd : (x == ("__debug__" : Str)) = false := by decide)
    (hcd : (x == ("__classdict__" : Str)) = false := by decide) (hs : swapsWith (.Call (.Attribute (.Name x p) "extend" p2) [e] [] p3) none pos.line X.env = pure false := by rfl)
    (hbase : attributeBase (.Name x p) "extend" X.env (eval (.Name x p) X.env) = eval (.Name x p) X.env := by rfl)
    (hfew : ((backTo p3 (starEach [e] X.env)).all (fun x => !x.1) && (backToKw p3 (keywordEach [] X.env)).all (fun x => x.1.isSome)
      && decide (([e] : List Expr).length + ([] : List Keyword).length + (if ([] : List Keyword).isEmpty then 0 else 1) < 30)) = true := by rfl)
    (hline : (p2.endLine == p3.line) = true := by rfl) (hst : starEach [e] X.env = (false, eval e X.env) :: starEach [] X.env := by rfl) (hplain : (backTo p3 (starEach [] X.env)).any (·.1) = false := by rfl) :
    DS X C W (.Expr (.Call (.Attribute (.Name x p) "extend" p2) [e] [] p3) pos) (gExt i fe) := by
  obtain ⟨te, pe, qe⟩ := he.pr
  refine ⟨_, ps_expr (pe_bm PySem.F.plainAttrs_list PySem.F.slot_list_extend PySem.F.type_list_extend mt_extend (pe_var (i := i) hN hvis hd hcd) (pa_cons pe pa_nil hst) hbase hfew hline hst hplain) hs, fun F A H σ s D o pp => ?_⟩
  cases e0 : getM s i with
  | none => unfold gExt at pp; rw [e0] at pp; exact pp.elim
  | some km =>
    obtain ⟨k0, m0⟩ := km
    unfold gExt at pp
    rw [e0] at pp
    simp only [Option.elim_some] at pp
    cases m0 with
    | lst l0 =>
      simp only at pp
      obtain ⟨_, g0, ⟨_, xs0, hx0, _⟩⟩ := mut_at o e0
      refine ⟨_, g0, .inl ⟨rfl, _, SqL.of hx0⟩, ?_⟩
      refine qe F A H σ s _ o (PostS.seq pp fun pv s1 xv F1 A1 H1 _ o1 st1 r1 p1 => ?_)
      cases r1 with
      | @lst a ys z h2 h3 =>
        cases e1 : getM s1 i with
        | none => simp only [e1] at p1; exact p1.elim
        | some km2 =>
          obtain ⟨k, m⟩ := km2
          simp only [e1] at p1
          cases m with
          | lst l =>
            simp only at p1
            split at p1
            · rename_i hl
              obtain ⟨g1, g2, g3⟩ := mut_at o1 e1
              obtain ⟨_, xs, hx, hr⟩ := g3
              rw [g0] at g2
              have ea : adr σ C k0 = adr σ C k := V.ref.inj (Option.some.inj (Option.some.inj g2))
              refine ⟨_, a, xs, ys, rfl, rfl, by rw [ea]; exact hx, o1.sub _ _ h2, by rw [hr.length, h3.length]; exact line_le hl, ?_⟩
              rw [ea]
              obtain ⟨o3, st3⟩ := o1.updL g1 (Rps.append hr h3)
              exact p1 _ _ _ _ o3 st3
            · exact p1.elim
          | _ => exact p1.elim
      | _ => exact p1.elim
    | _ => exact pp.elim
end
end PL
/-! PL18: isinstance(e, T), T a built-in type, e a plain value. -/
namespace PL
open PySem PySem.Spec PyProof.Rows L2
end PL
/-! PL19: {"a": e, ..}[k]: a dict display with written texts for keys, read at once. -/
namespace PL
open PySem PySem.Spec PyProof.Rows L2
end PL
/-! PL20: the module's own numbers and texts. -/
namespace PL
open PySem PySem.Spec PyProof.Rows L2
section
variable {X : Cx} {C : Fx} {W : WX} {pos : Pos}
theorem dv_gint {x : Str} {n : Int} (hg : Gl X x) (h : ∃ u, X.mg x = some u ∧ RelV (.int n) u) (hd : (x == ("__debug__" : Str)) = false := by decide) : DV X C W (.Name x pos) (eC (.int n)) := by
  obtain ⟨u, h1, h2⟩ := h
  exact dv_const (pe_glob hg h1 h2 hd) fun _ => .int n
theorem dv_gstr {x y : Str} (hg : Gl X x) (h : ∃ u, X.mg x = some u ∧ RelV (.str y) u) (hd : (x == ("__debug__" : Str)) = false := by decide) : DV X C W (.Name x pos) (eC (.str y)) := by
  obtain ⟨u, h1, h2⟩ := h
  exact dv_const (pe_glob hg h1 h2 hd) fun _ => .str y
end
end PL
/-! PL21: e.f, e an instance of an own class (a plain value). -/
namespace PL
open PySem PySem.Spec PyProof.Rows L2
section
variable {X : Cx} {C : Fx} {W : WX} {e : Expr} {pos : Pos} {fe : Stt → Res PV}
def eFld (c f : Str) (fe : Stt → Res PV) : Stt → Res PV := fun s => (fe s).bind fun p s1 => match p with
  | .ins c' fs => if c' = c then Res.opt s1 (fs.lookup f) else .stuck
  | _ => .stuck
theorem rpf_look {F : Hp} {f : Str} : ∀ {fs : List (Str × V)} {l : List (Str × PV)} {p : PV}, Rpf C F fs l → l.lookup f = some p → ∃ v, fs.lookup f = some v ∧ Rp C F v p
  | _, _, _, .nil, h => by simp at h
  | (n, v) :: fs, (_, q) :: l, p, .cons r rs, h => by
    rw [List.lookup_cons] at h ⊢
    cases e : (f == n) with
    | true =>
      rw [e] at h
      cases h
      exact ⟨v, rfl, r⟩
    | false =>
      rw [e] at h
      exact rpf_look rs h
theorem dv_fld (c f : Str) (hK : X.K = C.K) (he : DV X C W e fe) (kc : Cls X.K (C.cl c)) (kn : NoAttr X.K (C.cl c) f) (hb : attributeBase e f X.env (eval e X.env) = eval e X.env := by rfl) : DV X C W (.Attribute e f pos) (eFld c f fe) := by
  obtain ⟨te, pe, qe⟩ := he.pr
  refine ⟨_, pe_fld pe hb, fun F A H σ s Q o pp => ?_⟩
  refine qe F A H σ s _ o (pp.seq fun q1 s1 v1 F1 A1 H1 _ o1 st1 r1 p1 => ?_)
  cases r1 with
  | @ins a c' dx fs l h1 h2 =>
    simp only at p1
    by_cases hc : c' = c
    · subst hc
      rw [if_pos rfl] at p1
      obtain ⟨z, ez, kz⟩ := Post.opt p1
      obtain ⟨v, h3, h4⟩ := rpf_look h2 ez
      exact ⟨a, _, dx, fs, v, rfl, o1.sub _ _ h1, kc, kn, h3, kz _ _ _ _ o1 .refl h4⟩
    · rw [if_neg hc] at p1; exact p1.elim
  | _ => exact p1.elim
end
end PL
/-! PL22: self.f = v, self.f, self an instance of the state. -/
namespace PL
open PySem PySem.Spec PyProof.Rows L2
section
variable {X : Cx} {C : Fx} {W : WX} {e : Expr} {pos : Pos} {fe : Stt → Res PV}
def putP (f : Str) (p : PV) : List (Str × PV) → List (Str × PV)
  | [] => [(f, p)]
  | (n, q) :: r => if n = f then (n, p) :: r else (n, q) :: putP f p r
theorem Rpf.put {F : Hp} {f : Str} {v : V} {p : PV} (r : Rp C F v p) : ∀ {fs : List (Str × V)} {l : List (Str × PV)}, Rpf C F fs l → Rpf C F (putF f v fs) (putP f p l)
  | _, _, .nil => .cons r .nil
  | (n, u) :: fs, (_, q) :: l, .cons h t => by
    unfold putF putP
    by_cases e : n = f
    · rw [if_pos e]
      rw [if_pos e]
      exact .cons r t
    · rw [if_neg e]
      rw [if_neg e]
      exact .cons h (Rpf.put r t)
theorem Rpf.len {F : Hp} : ∀ {fs : List (Str × V)} {l : List (Str × PV)}, Rpf C F fs l → fs.length = l.length
  | _, _, .nil => rfl
  | _, _, .cons _ t => by rw [List.length_cons, List.length_cons, Rpf.len t]
/-- an instance of the state gets new fields -/
theorem OkF.updI {F H : Hp} {A : Nat → List Addr} {σ : L2.St} {s : Stt} (o : OkF C F A H σ s) {k : MKey} {c : Str} {l l2 : List (Str × PV)} {fs2 : List (Str × V)} {dx : Addr} (hk : getK s k = some (.ins c l)) (r : Rpf C F fs2 l2) :
    OkF C F A (L2.upd H (adr σ C k) (.ins (C.cl c) dx fs2)) σ (setK s k (.ins c l2)) ∧ Step C F A H F A (L2.upd H (adr σ C k) (.ins (C.cl c) dx fs2)) := by
  obtain ⟨⟨hf, dx0, fs, hx, hr⟩, _⟩ := key_at o hk
  refine o.upd hk (fun b hb => L2.upd_ne (fun e => hb (by rw [hf, e]; exact List.mem_cons_self))) (fun b hb => ?_) ⟨hf, dx, fs2, L2.upd_same, r⟩
  rw [hf, List.mem_singleton] at hb
  subst hb
  rw [L2.upd_same]; simp
def gSetFld (i : Nat) (c f : Str) (fe : Stt → Res PV) : Stt → Fl := fun s => (fe s).fl fun p s1 => match getM s1 i with
  | some (k, .ins c' l) => if c' = c ∧ l.length < 1000 then .nx (setK s1 k (.ins c (putP f p l))) else .stuck
  | _ => .stuck
theorem ds_setFld (i : Nat) (c f : Str) {x : Str} {p p2 : Pos} {v : Expr} {fv : Stt → Res PV} (hv : DV X C W v fv) (kc : Cls X.K (C.cl c)) (kn : NoAttr X.K (C.cl c) f) (hN : X.N[i]? = some x := by rfl) (hvis : Vis X.env.scope x := by first | exact Or.inl rfl | exact Or.inr (Or.inl rfl) | exact Or.inr (Or.inr rfl)) (hd : (x == ("__debug__" : Str)) = false := by decide)
    (hcd : (x == ("__classdict__" : Str)) = false := by decide) (hs : swapsWith v (some (.Attribute (.Name x p) f p2)) pos.line X.env = pure false := by rfl) : DS X C W (.Assign [.Attribute (.Name x p) f p2] v pos) (gSetFld i c f fv) := by
  obtain ⟨tv, pv, qv⟩ := hv.pr
  refine ⟨_, ps_fld (pe_var (i := i) hN hvis hd hcd) pv hs, fun F A H σ s D o pp => ?_⟩
  refine qv F A H σ s _ o (PostS.seq pp fun q s1 xv F1 A1 H1 _ o1 st1 r1 p1 => ?_)
  cases e1 : getM s1 i with
  | none => simp only [e1] at p1; exact p1.elim
  | some km =>
    obtain ⟨k, m⟩ := km
    simp only [e1] at p1
    cases m with
    | ins c' l =>
      simp only at p1
      by_cases hc : c' = c ∧ l.length < 1000
      · rw [if_pos hc] at p1
        obtain ⟨rfl, hl⟩ := hc
        obtain ⟨g1, g2, g3⟩ := mut_at o1 e1
        obtain ⟨_, dx, fs, hx, hr⟩ := g3
        refine ⟨_, g2, _, _, dx, fs, rfl, hx, kc, kn, by rw [hr.len]; exact hl, ?_⟩
        obtain ⟨o3, st3⟩ := o1.updI (dx := dx) g1 (Rpf.put r1 hr)
        exact p1 _ _ _ _ o3 st3
      · rw [if_neg hc] at p1; exact p1.elim
    | _ => exact p1.elim
/-- self.f, self an instance of the state -/
def eFldM (i : Nat) (c f : Str) : Stt → Res PV := fun s => match getM s i with
  | some (_, .ins c' l) => if c' = c then Res.opt s (l.lookup f) else .stuck
  | _ => .stuck
end
end PL
/-! PL23: an instance is made: K(e, ..). -/
namespace PL
open PySem PySem.Spec PyProof.Rows L2
section
variable {X : Cx} {Cn : CXT} {k : Nat} {f Cc : Addr} {fd : FuncData} {ps : List Str} {sp : Sp} {dvs : List V} {ds : List Value} {E : L2.St → XK} {x : Str} {p pos : Pos} {e : Expr} {es : List Expr} {t : TA}
theorem run_mkG {pins : List (Addr × Obj)} {σ : L2.St} {H : Hp} {s : Shared} {Q : VK} {us : List Value} {vs : List V} (M : Mk X.K Cc f) (F : FnG X.prog X.w X.K X.mg X.base Cn k f fd ps sp) (room : Room (k + 1) X.A) (gu : X.A.guards = some [])
    (hb : Binds X.K fd ps ds) (hd : Vals dvs ds) (hx : PassesAt Cn X σ (E σ)) (I : Inv X pins σ H s) (rel : Vals vs us)
    (h : ∀ a dx, H a = none → H dx = none → dx ≠ a → sp (.ref a :: (vs ++ dvs)) (upd (upd H dx (.own a)) a (.ins Cc dx [])) (fun v H2 => v = .non ∧ Q (.ref a) H2) (E σ)) :
    wpAny (model X.prog X.w) X.A (call (.ref Cc) us) (EP X pins σ Q) X.xe s := by
  have q0 := h (s.heap.objs.size + 1) s.heap.objs.size (I.hok.fresh (Nat.le_succ _)) (I.hok.fresh (Nat.le_refl _)) (Nat.ne_of_lt (Nat.lt_succ_self _))
  have J := Inv.made (C := Cc) I
  have rel2 : Vals (V.ref (s.heap.objs.size + 1) :: (vs ++ dvs)) (Value.ref (s.heap.objs.size + 1) :: (us ++ ds)) := .cons rfl (rel.append hd)
  have n2 : (Value.ref (s.heap.objs.size + 1) :: us ++ ds).length = ps.length := by
    have z := rel2.length
    rw [F.gl _ _ _ _ q0] at z
    exact z.symm
  have gu2 : (X.A.under (.builtin "type.__call__" ⟨.ref Cc :: us, []⟩)).guards = some [] := by
    first | exact gu | (rw [← gu]; rfl)
  refine wpAny_call (make_map (f := f) I.kIn M.makes M.init (beq_iff_eq.mp M.fn) (codeAny_mono (F.go _ X.stack _ _ ⟨Value.ref (s.heap.objs.size + 1) :: us, []⟩ (Value.ref (s.heap.objs.size + 1) :: (us ++ ds)) _ _ (E σ) (room.make Cc us []) gu2
    (J.env0.make Cc us []) (hb _ (Value.ref (s.heap.objs.size + 1) :: us) J.kIn n2) rel2 q0) ?_))
  intro r s' z
  cases r with
  | error er => exact hx pins _ _ er s' J z
  | ok fl =>
    cases fl with
    | ret u =>
      obtain ⟨v, H', J3, rv, ev, q3⟩ := J.after z
      subst ev
      exact ⟨rv, ⟨V.ref (s.heap.objs.size + 1), H', J3, rfl, q3⟩⟩
    | next => exact False.elim z
    | brk => exact False.elim z
    | cont => exact False.elim z
def tMakeG (Cc : Addr) (sp : Sp) (dvs : List V) (E : L2.St → XK) (t : TA) : TE := fun σ H Q => t σ H fun vs H1 => ∀ a dx, H1 a = none → H1 dx = none → dx ≠ a →
  sp (.ref a :: (vs ++ dvs)) (upd (upd H1 dx (.own a)) a (.ins Cc dx [])) (fun v H2 => v = .non ∧ Q (.ref a) H2) (E σ)
theorem pe_mkG (M : Mk X.K Cc f) (F : FnG X.prog X.w X.K X.mg X.base Cn k f fd ps sp) (room : Room (k + 1) X.A) (gu : X.A.guards = some []) (hg : Gl X x) (hm : X.mg x = some (.ref Cc)) (hb : Binds X.K fd ps ds) (hd : Vals dvs ds) (hx : ∀ σ, PassesAt Cn X σ (E σ))
    (ha : PA X (e :: es) t) (hdb : (x == ("__debug__" : Str)) = false := by decide) (he : starEach (e :: es) X.env = (false, eval e X.env) :: starEach es X.env := by rfl) (hpl : (backTo pos (starEach es X.env)).any (·.1) = false := by rfl) :
    PE X (.Call (.Name x p) (e :: es) [] pos) (tMakeG Cc sp dvs E t) := by
  refine ⟨fun pins s σ H Q I h => ?_⟩
  refine wpAny_Call_Name_kw (ld_glob I hg hm ?_ hdb)
  refine PySem.W.callWith_K (h₀ := X.base) I.ok.mod.kin M.kp (thn (ha.run pos pins s σ H _ I h) fun us s1 ⟨vs, H1, I1, r, q⟩ => ⟨I1.kIn, ?_⟩) he hpl
  exact run_mkG M F room gu hb hd (hx σ) I1 r q
end
/-- where classes lie, and the tables of lambdas (T) -/
def clT (T : List (Str × Addr)) (c0 : Str → Addr) (x : Str) : Addr := if x ∈ tabNames.map tabKey then (T.lookup x).getD 0 else c0 x
theorem clT_at {T : List (Str × Addr)} {K : PySem.W.Frag} {nm : Str} {C : Addr} (h : PySem.W.nsIn K mainGlobals nm = some (some (.ref C))) (hn : decide (nm ∈ tabNames.map tabKey) = false := by decide +kernel) : clT T (PXE.clOf K) nm = C := by
  unfold clT
  rw [if_neg (of_decide_eq_false hn)]
  exact PXE.clOf_at h
theorem clT_tab {T : List (Str × Addr)} {c0 : Str → Addr} {q : Str} (h : q ∈ tabNames) : clT T c0 (tabKey q) = (T.lookup (tabKey q)).getD 0 := by
  unfold clT
  rw [if_pos (List.mem_map_of_mem h)]
theorem tabOk_0 {F H : Hp} : TabOk (fun _ => 0) F H := fun _ _ h => absurd rfl h
theorem tabOk_nil {c0 : Str → Addr} {F H : Hp} : TabOk (clT [] c0) F H := fun q hq h => absurd (clT_tab hq) h
/-- a law's promise where its error classes lie as the written part says -/
abbrev spX (K : PySem.W.Frag) (m : List SV → List MO → FRes) : Sp := spOf K (clT [] (PXE.clOf K)) 1 m
end PL
/-! PL24: len(set(xs)), xs a list of ints; divmod. -/
namespace PL
open PySem PySem.Spec PyProof.Rows L2
/-- each number once, in the order in which it comes first -/
def onceI : List Int → List Int := fun ns => ns.foldl PyProof.Rows.step_dedup []
section
variable {X : Cx} {C : Fx} {W : WX} {e : Expr} {pos : Pos} {fe : Stt → Res PV}
def pLenSet : PV → Option PV
  | .lst l => match allInt l with
    | some ns => if ns.length ≤ 4000 then some (.int ((onceI ns).length : Nat)) else none
    | none => none
  | _ => none
def eLenSet (fe : Stt → Res PV) : Stt → Res PV := fun s => (fe s).bind fun p s1 => Res.opt s1 (pLenSet p)
end
end PL
/-! PL25: def f( *v ): what is passed is one tuple. -/
namespace PL
open PySem PySem.Spec PyProof.Rows L2
theorem PostF.after {C : Fx} {F F1 H H1 : Hp} {Q : VK} {E : XK} {r : FRes} (st : Step C F noA H F1 noA H1) (p : PostF C F H Q E r) : PostF C F1 H1 Q E r := by
  cases r with
  | ok v mu => exact fun u F' H' o t rr => p u F' H' o (st.trans t) rr
  | own m mu => exact fun q F' H' o t f => p q F' H' o (st.trans t) (f.after st)
  | ex c v mu => exact fun d F' H' o t x => p d F' H' o (st.trans t) x
  | stuck => exact p
section
variable {X : Cx} {Cn : CXT} {C : Fx} {W : WX} {k : Nat} {f : Addr} {sp : Sp} {E : L2.St → XK} {x : Str} {p pos : Pos} {e : Expr} {es : List Expr} {t : TA} {m : List SV → List MO → FRes} {fa : Stt → Res (List PV)}
def eCallQ (m : List SV → List MO → FRes) (fa : Stt → Res (List PV)) : Stt → Res PV := fun s => (fa s).bind fun l s1 => if l.length ≤ 16777216 then match m [.val (.tup l)] [] with
  | .ok v _ => .ok v s1
  | .own (.lst l) _ => .ok (.lst l) s1
  | .own _ _ => .stuck
  | .ex c v _ => .ex c v s1
  | .stuck => .stuck
  else .stuck
end
end PL
/-! PL26: a list of the state is a plain value from now on. -/
namespace PL
open PySem PySem.Spec PyProof.Rows L2
section
variable {X : Cx} {C : Fx} {W : WX} {sts : List Stmt} {g : Stt → Fl}
def gFrz (i : Nat) : Stt → Fl := fun s => match s.ro[i]? with
  | some (some (.own (.lst l))) => .nx (setV i (.lst l) s)
  | _ => .stuck
theorem set_get {α : Type} {l : List α} {i : Nat} {x : α} (h : l[i]? = some x) : l.set i x = l := by
  obtain ⟨h1, h2⟩ := List.getElem?_eq_some_iff.mp h
  subst h2
  exact List.set_getElem_self h1
theorem OkF.frz {F H : Hp} {A : Nat → List Addr} {σ : L2.St} {s : Stt} {i : Nat} {l : List PV} (o : OkF C F A H σ s) (e : s.ro[i]? = some (some (SV.own (.lst l)))) :
    ∃ F' A', OkF C F' A' H σ (PL.setV i (PV.lst l) s) ∧ Step C F A H F' A' H := by
  obtain ⟨p, h1, o2, st2, fr⟩ := o.mv e
  obtain ⟨F2, o3, st3, r3⟩ := o2.freeze st2 fr
  obtain ⟨o4, st4⟩ := o3.setV (i := i) r3
  rw [set_get h1] at o4
  have es : PL.setV i (PV.lst l) ⟨s.ro.set i none, s.mu⟩ = PL.setV i (PV.lst l) s := by
    unfold PL.setV
    simp only [List.set_set]
  rw [es] at o4
  exact ⟨F2, _, o4, st3.trans st4⟩
end
end PL
/-! PL27: ranges between numbers of any size. -/
namespace PL
open PySem PySem.Spec PyProof.Rows L2
theorem turn_long {P : Program} {w : World} {K : PySem.W.Frag} {tg : Expr} (it : Addr) (lo : Int) (n : Nat) : Turn P w K tg (Itr lo n) [it] it (fun i h => IsLongIter h it (lo + (i : Nat) * 1) ((n : Int) - (i : Nat)) 1) where
  mem := by simp
  obj := fun i h st b hb => by
    have e : b = it := by simpa using hb
    subst e
    exact ⟨_, st, fun v z => by
      have z' : Data.fields _ = Data.cell v := z
      cases z'⟩
  keep := fun i h h' st k => k it (by simp) _ st
  item := by
    intro X hP hw hK hc i pins s σ H E I hf st hg
    subst hP hw hK
    obtain ⟨f0, f1, f2, f3, f4, f5⟩ := hf it (by simp)
    have W := Walks.longrange (prog := X.prog) (w := X.w) (I.ok.hd hc) it lo 1 n
    refine W.item i s _ _ hg st fun v h' tk hv st' kk => ?_
    obtain ⟨t, rfl⟩ := hv
    have I1 : Inv X pins σ H { s with heap := h', toks := tk } := I.turned (fun b o hb e => kk b o (by simpa using hb) e) f0 f1 f3 f4 f5
    refine ⟨_, rfl, go_of (s := { s with heap := h', toks := tk }) (n := "longrange_iterator") st' rfl rfl (by decide) ⟨.int (lo + i), H, I1, ⟨t, ?_⟩, ⟨rfl, rfl⟩, st', fun b hb => (hf b hb).1⟩⟩
    rw [Int.mul_one]
  done := by
    intro X hP hw hK hc i pins s σ H E I hf st hg
    subst hP hw hK
    obtain ⟨f0, f1, f2, f3, f4, f5⟩ := hf it (by simp)
    exact wpAny_pyNext_long_end (I.ok.hd hc) st (by have : n ≤ i := hg; omega) fun h' eb => ⟨rfl, I.turned (t' := s.toks) (fun b o hb e => eb b o hb e) f0 f1 f3 f4 f5⟩
  self := fun _ _ _ _ _ st h => wpAny_pyIter_longiter st h
section
variable {X : Cx} {tg : Expr}
theorem range_itW {pins : List (Addr × Obj)} {σ : L2.St} {H : Hp} {s : Shared} {R : It → Hp → Prop} {E : Value → Shared → Prop} {lo hi : Int} {t u v : Tok} {tk : Nat} (I : Inv X pins σ H s)
    (q : R (Itr lo (hi - lo).toNat) H) : wpAny (model X.prog X.w) X.A (pyIter (.ref s.heap.objs.size)) (PIE X pins σ tg R) E { s with heap := s.heap.push { cls := .type "range", data := .fields #[.int lo t, .int hi u, .int 1 v] }, toks := tk } := by
  have I1 : Inv X pins σ H { s with heap := s.heap.push { cls := .type "range", data := .fields #[.int lo t, .int hi u, .int 1 v] }, toks := tk } := I.kept fun b o e => Heap.get?_push_of_some _ e
  have e1 : lo + ((0 : Nat) : Int) * 1 = lo := by simp
  have e2 : (((hi - lo).toNat : Nat) : Int) - ((0 : Nat) : Int) = Builtin.Range.rangeSize lo hi 1 := by rw [rangeSize_one]; split <;> omega
  by_cases hs : Builtin.Range.small lo hi 1 = true
  · refine wpAny_pyIter_range (IsRange.new ..) hs ?_
    refine ⟨(s.heap.push { cls := .type "range", data := .fields #[.int lo t, .int hi u, .int 1 v] }).objs.size, [(s.heap.push { cls := .type "range", data := .fields #[.int lo t, .int hi u, .int 1 v] }).objs.size], _, _, H, rfl,
      I1.kept (t' := tk) fun b o e => Heap.get?_push_of_some _ e, turn_range _ lo (hi - lo).toNat, ?_, fun b hb => ?_, q⟩
    · show IsRangeIter _ _ (lo + ((0 : Nat) : Int) * 1) ((((hi - lo).toNat : Nat) : Int) - ((0 : Nat) : Int)) 1
      rw [e1, e2]
      exact Heap.get?_push_size _ rfl
    · have e : b = (s.heap.push { cls := .type "range", data := .fields #[.int lo t, .int hi u, .int 1 v] }).objs.size := by simpa using hb
      subst e
      exact I1.fpOk (Nat.le_refl _) (I1.hok.fresh (Nat.le_refl _))
  · refine wpAny_pyIter_longrange (IsRange.new ..) (by simpa using hs) ?_
    refine ⟨(s.heap.push { cls := .type "range", data := .fields #[.int lo t, .int hi u, .int 1 v] }).objs.size, [(s.heap.push { cls := .type "range", data := .fields #[.int lo t, .int hi u, .int 1 v] }).objs.size], _, _, H, rfl,
      I1.kept (t' := tk) fun b o e => Heap.get?_push_of_some _ e, turn_long _ lo (hi - lo).toNat, ?_, fun b hb => ?_, q⟩
    · show IsLongIter _ _ (lo + ((0 : Nat) : Int) * 1) ((((hi - lo).toNat : Nat) : Int) - ((0 : Nat) : Int)) 1
      rw [e1, e2]
      exact Heap.get?_push_size _ rfl
    · have e : b = (s.heap.push { cls := .type "range", data := .fields #[.int lo t, .int hi u, .int 1 v] }).objs.size := by simpa using hb
      subst e
      exact I1.fpOk (Nat.le_refl _) (I1.hok.fresh (Nat.le_refl _))
def iRngW1 (ta : TA) : TI := fun σ H R => ta σ H fun vs H1 => ∃ j : Int, vs = [.int j] ∧ R (Itr 0 j.toNat) H1
theorem pi_rangeW1 {a : Expr} {ta : TA} {p pos : Pos} (hg : Gl X "range") (hm : X.mg "range" = none) (ha : PA X [a] ta) (hs : starEach [a] X.env = [(false, eval a X.env)] := by rfl) : PI X tg (.Call (.Name "range" p) [a] [] pos) (iRngW1 ta) := by
  refine ⟨fun pins s σ H R I h => ?_⟩
  refine Call_ (ld_blt I hg hm boot_range (PyProof.Rows.callWith_type1 (thn (ha.run pos pins s σ H _ I h) fun us s1 ⟨vs, H1, I1, r1, q1⟩ => ?_) hs rfl))
  obtain ⟨j, e, q⟩ := q1
  subst e
  cases r1 with
  | cons r rr =>
    cases rr
    obtain ⟨t, rfl⟩ := r
    exact call_range_1 (range_itW (lo := 0) (hi := j) (R := R) I1 (by simpa using q))
end
section
variable {X : Cx} {C : Fx} {W : WX} {tg : Expr} {pos : Pos} {fa : Stt → Res (List PV)}
def iRangeW1 (fa : Stt → Res (List PV)) : Stt → Res (List PV) := fun s => (fa s).bind fun p s1 => match p with
  | [.int j] => .ok (rng 0 j.toNat) s1
  | _ => .stuck
def iRangeW2 (fa : Stt → Res (List PV)) : Stt → Res (List PV) := fun s => (fa s).bind fun p s1 => match p with
  | [.int i, .int j] => .ok (rng i (j - i).toNat) s1
  | _ => .stuck
theorem di_rangeW1 {a : Expr} {p : Pos} (hg : Gl X "range") (hm : X.mg "range" = none) (ha : DA X C W [a] fa) (hs : starEach [a] X.env = [(false, eval a X.env)] := by rfl) : DI X C W tg (.Call (.Name "range" p) [a] [] pos) (iRangeW1 fa) := by
  obtain ⟨te, pe, qe⟩ := ha.pr
  refine ⟨_, pi_rangeW1 hg hm pe hs, fun F A H σ s Q o p => ?_⟩
  refine qe F A H σ s _ o (p.seq fun a s1 v F1 A1 H1 _ o1 st1 r1 p1 => ?_)
  cases r1 with
  | nil => exact p1.elim
  | cons r r' =>
    cases r' with
    | cons _ _ => cases r <;> exact p1.elim
    | nil =>
      cases r with
      | int j =>
        simp only at p1
        refine ⟨j, rfl, Post.now o1 p1 ?_⟩
        refine ⟨_, _, ?_, fun _ _ => trivial, rng_ok 0 j.toNat⟩
        rw [rng_length]
        exact walk_range
      | _ => exact p1.elim
end
end PL
/-! PL28: tables of the module: D[k], D.get(k), k a key of D. -/
namespace PL
open PySem PySem.Spec PyProof.Rows L2
/-- a written value and what it stands for -/
inductive KvV (K : PySem.W.Frag) : Value → PV → Prop
  | int (i : Int) (t : Tok) : KvV K (.int i t) (.int i)
  | str (x : Str) (t : Tok) : KvV K (.str x t) (.str x)
  | nums {a : Addr} {o : Obj} {its : Array Value} {n : Nat} {ns : List Int} : K.lookup a = some o → o.cls = .type "tuple" → o.data = .seq its n → its.size ≤ sizeLine → Vals (ns.map V.int) its.toList → KvV K (.ref a) (.tup (ns.map PV.int))
theorem KvV.rp {K : PySem.W.Frag} {u : Value} {p : PV} (h : KvV K u p) : ∃ v, RelV v u ∧ ∀ (C : Fx) (F : Hp), C.K = K → Rp C F v p := by
  cases h with
  | int i t => exact ⟨.int i, ⟨t, rfl⟩, fun _ _ _ => .int i⟩
  | str x t => exact ⟨.str x, ⟨t, rfl⟩, fun _ _ _ => .str x⟩
  | @nums a o its n ns h1 h2 h3 h4 h5 => exact ⟨.ref a, rfl, fun C F e => .tup (.inr ⟨o, its, n, by rw [e]; exact h1, h2, h3, h4, h5⟩) (Rps.of_ints ns)⟩
structure DctT (w : World) (K : PySem.W.Frag) (mg : Str → Option Value) (x : Str) (tbl : List (Str × PV)) : Prop where
  ex : ∃ p es n, mg x = some (.ref p) ∧ KDict K w p es n ∧ ∀ k pv, tbl.lookup k = some pv → ∃ u, PySem.W.nsIn K p k = some (some u) ∧ KvV K u pv
section
variable {X : Cx} {C : Fx} {W : WX} {e : Expr} {pos : Pos} {fe : Stt → Res PV}
def eDct (tbl : List (Str × PV)) (fe : Stt → Res PV) : Stt → Res PV := fun s => (fe s).bind fun p s1 => match p with
  | .str k => Res.opt s1 (tbl.lookup k)
  | _ => .stuck
theorem dv_dct {tbl : List (Str × PV)} {x : Str} {p : Pos} (hK : X.K = C.K) (D : DctT X.w X.K X.mg x tbl) (he : DV X C W e fe) (hs : PlainIx e) (hg : Gl X x := by rfl) (hd : (x == ("__debug__" : Str)) = false := by decide) :
    DV X C W (.Subscript (.Name x p) e pos) (eDct tbl fe) := by
  obtain ⟨q, es, n, hm, hk, hv⟩ := D.ex
  obtain ⟨te, pe, qe⟩ := he.pr
  refine ⟨_, pe_ix ix_kdict (pe_glob (v := .ref q) hg hm rfl hd) pe hs, fun F A H σ s Q o pp => ?_⟩
  refine qe F A H σ s _ o (pp.seq fun q1 s1 v1 F1 A1 H1 _ o1 st1 r1 p1 => ?_)
  cases r1 with
  | str k =>
    obtain ⟨pv, h1, h2⟩ := Post.opt p1
    obtain ⟨u, h3, h4⟩ := hv k pv h1
    obtain ⟨v, h5, h6⟩ := h4.rp
    exact ⟨q, k, v, rfl, rfl, ⟨es, n, u, hk.at_, hk.lit, h3, h5⟩, h2 _ _ _ _ o1 .refl (h6 C F1 hK.symm)⟩
  | _ => exact p1.elim
def tKGet (K : PySem.W.Frag) (q : Addr) (ty : TE) : TE := fun σ H Q => ty σ H fun y H2 => ∃ (z : Str) (v : V) (u : Value), y = .str z ∧ PySem.W.nsIn K q z = some (some u) ∧ RelV v u ∧ Q v H2
theorem pe_kget {x : Str} {p apos cpos : Pos} {ty : TE} {q : Addr} {es : Array DictEntry} {n : Nat} (hk : KDict X.K X.w q es n) (hg : Gl X x) (hm : X.mg x = some (.ref q)) (hd : (x == ("__debug__" : Str)) = false) (he : PE X e ty) (m : M1 X (.Name x p) "get" apos e cpos) :
    PE X (.Call (.Attribute (.Name x p) "get" apos) [e] [] cpos) (tKGet X.K q ty) := by
  refine ⟨fun pins s σ H Q I h => ?_⟩
  refine wpAny_Call_method m.base m.few m.line PySem.F.plainAttrs_dict PySem.F.slot_dict_get PySem.F.type_dict_get (thn ((pe_glob (pos := p) (v := .ref q) hg hm rfl hd).run pins s σ H (fun v H1 => v = .ref q ∧ tKGet X.K q ty σ H1 Q) I ⟨rfl, h⟩) fun u s1 ⟨x0, H1, I1, rx, ex, q1⟩ => ?_)
  subst ex
  obtain rfl : u = Value.ref q := rx
  have hm0 := PySem.W.mapOf_K (prog := X.prog) (w := X.w) I1.kIn hk.at_ hk.lit
  refine ⟨hm0.typeIs, fun b z => ?_, ?_⟩
  · cases z
    exact ⟨_, I1.kIn _ _ hk.at_, rfl⟩
  · rw [m.trees]
    refine Calls.callWith_builtin rfl (Calls.evalArgs_plain (Calls.spliced_cons (thn (he.run pins s1 σ H1 _ I1 q1) fun iv s2 ⟨y, H2, I2, ry, z, v, u, ey, hn, ru, q2⟩ => Calls.spliced_nil ?_)))
    subst ey
    obtain ⟨t, rfl⟩ := ry
    have hm2 := PySem.W.mapOf_K (prog := X.prog) (w := X.w) I2.kIn hk.at_ hk.lit
    refine call_meetsIn PySem.F.slot_dict_get hm2.typeIs PySem.F.entry_dict_get (PySem.F.args_dict_get_2 _ _) (meets_dict_get (strKind X.prog X.w) q (strKind_is X.prog X.w z t) hk.low) ⟨_, hm2, ?_⟩
    rw [PySem.W.find_K hk.at_ hn]
    exact ⟨v, H2, I2.tok _, ru, q2⟩
theorem dv_dget {tbl : List (Str × PV)} {x : Str} {p apos cpos : Pos} (hK : X.K = C.K) (D : DctT X.w X.K X.mg x tbl) (he : DV X C W e fe) (m : M1 X (.Name x p) "get" apos e cpos) (hg : Gl X x := by rfl) (hd : (x == ("__debug__" : Str)) = false := by decide) :
    DV X C W (.Call (.Attribute (.Name x p) "get" apos) [e] [] cpos) (eDct tbl fe) := by
  obtain ⟨q, es, n, hm, hk, hv⟩ := D.ex
  obtain ⟨te, pe, qe⟩ := he.pr
  refine ⟨_, pe_kget hk hg hm hd pe m, fun F A H σ s Q o pp => ?_⟩
  refine qe F A H σ s _ o (pp.seq fun q1 s1 v1 F1 A1 H1 _ o1 st1 r1 p1 => ?_)
  cases r1 with
  | str k =>
    obtain ⟨pv, h1, h2⟩ := Post.opt p1
    obtain ⟨u, h3, h4⟩ := hv k pv h1
    obtain ⟨v, h5, h6⟩ := h4.rp
    exact ⟨k, v, u, rfl, h3, h5, h2 _ _ _ _ o1 .refl (h6 C F1 hK.symm)⟩
  | _ => exact p1.elim
end
end PL
/-! PL29: texts walked sign by sign; a sign in a text. -/
namespace PL
open PySem PySem.Spec PyProof.Rows L2
section
variable {X : Cx} {C : Fx} {W : WX} {e tg : Expr} {fe : Stt → Res PV}
def signs (z : Str) : List PV := z.cps.toList.map fun c => PV.str ⟨#[c]⟩
def iTxt (fe : Stt → Res PV) : Stt → Res (List PV) := fun s => (fe s).bind fun p s1 => match p with
  | .str z => .ok (signs z) s1
  | _ => .stuck
theorem di_txt (he : DV X C W e fe) : DI X C W tg e (iTxt fe) := by
  obtain ⟨te, pe, qe⟩ := he.pr
  refine ⟨_, pi_str pe, fun F A H σ s Q o p => ?_⟩
  refine qe F A H σ s _ o (p.seq fun a s1 v F1 A1 H1 _ o1 st1 r1 p1 => ?_)
  cases r1 with
  | str z =>
    simp only at p1
    refine ⟨z, rfl, Post.now o1 p1 ?_⟩
    have hl : (signs z).length = z.cps.size := by unfold signs; simp
    refine ⟨_, _, by rw [hl]; exact walk_str, fun _ _ => trivial, ?_⟩
    rintro i F2 A2 H2 σ2 s2 x H3 p o2 sm ⟨rfl, c, hc, rfl⟩ hp
    refine ⟨F2, o2, .refl, ?_⟩
    unfold signs at hp
    rw [List.getElem?_map] at hp
    rw [Array.getElem?_toList, hc] at hp
    cases hp
    exact .str _
  | _ => exact p1.elim
def pInSg : PV → PV → Option PV
  | .str z, .str y => match z.cps.toList with
    | [c] => some (.bl (decide (c ∈ y.cps.toList)))
    | _ => none
  | _, _ => none
def pNotInSg : PV → PV → Option PV
  | .str z, .str y => match z.cps.toList with
    | [c] => some (.bl (!decide (c ∈ y.cps.toList)))
    | _ => none
  | _, _ => none
theorem one_sign {z : Str} {c : Nat} (h : z.cps.toList = [c]) : z = ⟨#[c]⟩ := by
  cases z with
  | mk a =>
    cases a with
    | mk l =>
      have h' : l = [c] := h
      subst h'
      rfl
theorem d_inSg : OpD C (fun x y H Q => ∃ (c : Nat) (z : Str), x = .str ⟨#[c]⟩ ∧ y = .str z ∧ Q (.bl (decide (c ∈ z.cps.toList))) H) pInSg := by
  intro F A H σ s x y p q z Q o r1 r2 e k
  unfold pInSg at e
  split at e
  · rename_i z' y'
    cases r1; cases r2
    split at e
    · rename_i c hc
      cases e
      exact ⟨c, y', by rw [one_sign hc], rfl, k _ F A H o .refl (.bl _)⟩
    · cases e
  · cases e
theorem d_notInSg : OpD C (fun x y H Q => ∃ (c : Nat) (z : Str), x = .str ⟨#[c]⟩ ∧ y = .str z ∧ Q (.bl (!decide (c ∈ z.cps.toList))) H) pNotInSg := by
  intro F A H σ s x y p q z Q o r1 r2 e k
  unfold pNotInSg at e
  split at e
  · rename_i z' y'
    cases r1; cases r2
    split at e
    · rename_i c hc
      cases e
      exact ⟨c, y', by rw [one_sign hc], rfl, k _ F A H o .refl (.bl _)⟩
    · cases e
  · cases e
end
end PL
/-! PL30: K(e, ..): an instance made, a plain value from then on. -/
namespace PL
open PySem PySem.Spec PyProof.Rows L2
/-- a fresh instance is a plain value from now on -/
theorem OkF.freezeI {C : Fx} {F F' H H' : Hp} {A A' : Nat → List Addr} {σ : L2.St} {s : Stt} {p : Addr} {c : Str} {l : List (Str × PV)} (o : OkF C F' A' H' σ s) (st : Step C F A H F' A' H') (f : Fresh C F A H F' A' H' p (.ins c l)) :
    ∃ F2, OkF C F2 A' H' σ s ∧ Step C F A H F2 A' H' ∧ Rp C F2 (.ref p) (.ins c l) := by
  obtain ⟨fp, ⟨rfl, dx, xs, hx, hr⟩, hf⟩ := f
  obtain ⟨k1, k2, k3, k4⟩ := hf p List.mem_cons_self
  have sF : Same F' (L2.upd F' p (.ins (C.cl c) dx xs)) := fun b u e => by rw [L2.upd_ne (ne_of_none e k1)]; exact e
  refine ⟨L2.upd F' p (.ins (C.cl c) dx xs), ⟨o.len, fun b u e => ?_, fun i v e => ?_, fun i m e => ?_, o.nb, o.lent, fun q m e => ?_, fun i b hb => ?_, o.dis, fun q b hq hb => ?_, o.disB, ⟨o.ext.1.trans sF, o.ext.2.off sF (fun b ps e h => by rw [L2.upd_ne (fun z => by rw [z, hx] at e; cases e)]; exact h) fun _ _ _ h => h⟩⟩, ⟨st.s1.trans sF, fun b hb => ?_, st.s3, st.s4, st.s5⟩, .ins L2.upd_same (hr.mono sF)⟩
  · by_cases hb : b = p
    · subst hb; rw [L2.upd_same] at e; cases e; exact hx
    · rw [L2.upd_ne hb] at e; exact o.sub b u e
  · obtain ⟨u, h1, h2⟩ := o.val i v e
    exact ⟨u, h1, h2.mono sF⟩
  · obtain ⟨q, h1, h2⟩ := o.own i m e
    exact ⟨q, h1, h2.keep sF fun b x _ h => h⟩
  · exact (o.bor q m e).keep sF fun b x _ h => h
  · obtain ⟨h1, h2⟩ := o.free i b hb
    have hne : b ≠ p := fun z => k2 ⟨i, z ▸ hb⟩
    exact ⟨by rw [L2.upd_ne hne]; exact h1, h2⟩
  · obtain ⟨h1, h2⟩ := o.freeB q b hq hb
    have hne : b ≠ p := fun z => k3 ⟨q, hq, z ▸ hb⟩
    exact ⟨by rw [L2.upd_ne hne]; exact h1, h2⟩
  · by_cases hbp : b = p
    · subst hbp
      rcases k4 with z | z
      · exact .inr (.inl z)
      · exact .inr (.inr z)
    · rw [L2.upd_ne hbp] at hb; exact st.s2 b hb
def mkC (C : Fx) (a : Addr) : Fx := ⟨C.K, C.cl, 1, fun _ => a, fun _ => [a], C.fa, C.F0⟩
section
variable {C : Fx} {F H : Hp} {A : Nat → List Addr} {σ : L2.St} {s : Stt} {a dx : Addr} {c : Str}
theorem make_in (o : OkF C F A H σ s) (ha : H a = none) (hd : H dx = none) (hne : dx ≠ a) :
    OkF (mkC C a) F noA (L2.upd (L2.upd H dx (.own a)) a (.ins (C.cl c) dx [])) [] ⟨[], [.ins c []]⟩ := by
  refine ⟨rfl, fun b u e => ?_, fun i v e => by simp at e, fun i m e => by simp at e, rfl, fun i k e => by simp at e, fun k m e => ?_, fun i b h => absurd h (by simp [noA]), fun i j b h _ => absurd h (by simp [noA]), fun k b hk hb => ?_, fun k j b hk hj _ _ => ?_, ⟨o.ext.1, o.ext.2.ext0 fun b x hb => ?_⟩⟩
  · have hb := o.sub b u e
    have n1 : b ≠ a := fun z => by rw [z, ha] at hb; cases hb
    have n2 : b ≠ dx := fun z => by rw [z, hd] at hb; cases hb
    rw [L2.upd_ne n1, L2.upd_ne n2]
    exact hb
  · cases k with
    | zero =>
      have em : MO.ins c [] = m := by simpa using e
      subst em
      exact ⟨rfl, dx, [], L2.upd_same, .nil⟩
    | succ k => simp at e
  · have hb' : b ∈ [a] := hb
    rw [List.mem_singleton] at hb'
    subst hb'
    exact ⟨o.sub.free ha, fun i => by simp [noA]⟩
  · have h1 : k < 1 := hk
    have h2 : j < 1 := hj
    omega
  · have n1 : b ≠ a := fun z => by rw [z, ha] at hb; cases hb
    have n2 : b ≠ dx := fun z => by rw [z, hd] at hb; cases hb
    rw [L2.upd_ne n1, L2.upd_ne n2]
    exact hb
theorem make_out (o : OkF C F A H σ s) (ha : H a = none) (hd : H dx = none) (hne : dx ≠ a) {F' H' : Hp} {ms : List MO} (o' : OkF (mkC C a) F' noA H' [] ⟨[], ms⟩)
    (st : Step (mkC C a) F noA (L2.upd (L2.upd H dx (.own a)) a (.ins (C.cl c) dx [])) F' noA H') : OkF C F' A H' σ s ∧ Step C F A H F' A H' := by
  have in1 : ∀ b x, H b = some x → L2.upd (L2.upd H dx (.own a)) a (.ins (C.cl c) dx []) b = some x := fun b x hb => by
    have n1 : b ≠ a := fun z => by rw [z, ha] at hb; cases hb
    have n2 : b ≠ dx := fun z => by rw [z, hd] at hb; cases hb
    rw [L2.upd_ne n1, L2.upd_ne n2]
    exact hb
  have keep : ∀ b x, H b = some x → (∀ ps, x ≠ .tbl ps) → H' b = some x := fun b x hb nt => by
    refine st.s4 b x (in1 b x hb) nt (fun ⟨i, z⟩ => absurd z (by simp [noA])) ?_
    rintro ⟨k, _, hk⟩
    have hb' : b ∈ [a] := hk
    rw [List.mem_singleton] at hb'
    rw [hb', ha] at hb
    cases hb
  have there : ∀ b, H b ≠ none → H' b ≠ none := fun b hb => by
    cases e : H b with
    | none => exact absurd e hb
    | some x => exact st.s5 b (by rw [in1 b x e]; simp)
  have plain : ∀ b, F b = none → H b ≠ none → F' b = none := fun b h1 h2 => by
    cases e : F' b with
    | none => rfl
    | some x =>
      exfalso
      rcases st.s2 b (by rw [e]; simp) with z | z | ⟨i, z⟩
      · exact z h1
      · cases e2 : H b with
        | none => exact h2 e2
        | some y => rw [in1 b y e2] at z; cases z
      · exact absurd z (by simp [noA])
  refine ⟨⟨o.len, o'.sub, fun i v e => ?_, fun i m e => ?_, o.nb, o.lent, fun k m e => (o.bor k m e).keepT st.s1 fun b x _ t h => keep b x h (Tbx.tbl t), fun i b hb => ?_, o.dis, fun k b hk hb => ?_, o.disB, ⟨o.ext.1.trans st.s1, o'.ext.2⟩⟩, ⟨st.s1, fun b hb => ?_, fun b hb => .inl hb, fun b x hx nt _ _ => keep b x hx nt, there⟩⟩
  · obtain ⟨u, h1, h2⟩ := o.val i v e
    exact ⟨u, h1, h2.mono st.s1⟩
  · obtain ⟨p, h1, h2⟩ := o.own i m e
    exact ⟨p, h1, h2.keepT st.s1 fun b x _ t h => keep b x h (Tbx.tbl t)⟩
  · obtain ⟨h1, h2⟩ := o.free i b hb
    exact ⟨plain b h1 h2, there b h2⟩
  · have hm : k < s.mu.length := by rw [o.nb]; exact hk
    have ht := (o.bor k s.mu[k] (List.getElem?_eq_getElem hm)).there b hb
    exact ⟨plain b (o.freeB k b hk hb).1 ht, (o.freeB k b hk hb).2⟩
  · rcases st.s2 b hb with z | z | ⟨i, z⟩
    · exact .inl z
    · refine .inr (.inl ?_)
      cases e : H b with
      | none => rfl
      | some x => rw [in1 b x e] at z; cases z
    · exact absurd z (by simp [noA])
theorem make_frz (o : OkF C F A H σ s) (ha : H a = none) (hd : H dx = none) (hne : dx ≠ a) {F' H' : Hp} {fs : List (Str × PV)} (o' : OkF (mkC C a) F' noA H' [] ⟨[], [.ins c fs]⟩)
    (st : Step (mkC C a) F noA (L2.upd (L2.upd H dx (.own a)) a (.ins (C.cl c) dx [])) F' noA H') : ∃ F2, OkF C F2 A H' σ s ∧ Step C F A H F2 A H' ∧ Rp C F2 (.ref a) (.ins c fs) := by
  obtain ⟨o2, st2⟩ := make_out o ha hd hne o' st
  have hb : MAt (mkC C a) F' H' a [a] (.ins c fs) := o'.bor 0 (.ins c fs) rfl
  refine o2.freezeI st2 ⟨[a], hb.cg (by rfl) (by rfl), fun b hb2 => ?_⟩
  rw [List.mem_singleton] at hb2
  subst hb2
  refine ⟨(o'.freeB 0 b (by show 0 < 1; omega) (by show b ∈ [b]; simp)).1, fun ⟨i, z⟩ => (o.free i b z).2 ha, fun ⟨k, hk, z⟩ => ?_, .inl ha⟩
  have hm : k < s.mu.length := by rw [o.nb]; exact hk
  exact (o.bor k s.mu[k] (List.getElem?_eq_getElem hm)).there b z ha
end
theorem RpA.vals {C : Fx} {F : Hp} {vs : List V} {l : List PV} (h : Rps C F vs l) : RpA C F vs (l.map SV.val) := by
  induction l generalizing vs with
  | nil => cases h; exact .nil
  | cons p r ih =>
    cases h with
    | cons h1 h2 => exact .val h1 (ih h2)
section
variable {X : Cx} {C : Fx} {W : WX} {k n : Nat} {f : Addr} {fd : FuncData} {ps : List Str} {dvs : List V} {ds : List Value} {dps : List PV} {x c : Str} {p pos : Pos} {e : Expr} {es : List Expr} {m : List SV → List MO → FRes} {fa : Stt → Res (List PV)}
def eMake (c : Str) (m : List SV → List MO → FRes) (n : Nat) (dps : List PV) (fa : Stt → Res (List PV)) : Stt → Res PV := fun s => (fa s).bind fun l s1 => if l.length + dps.length + 1 = n then match m (.bor 0 :: (l ++ dps).map .val) [.ins c []] with
  | .ok .non [.ins c' fs] => if c' = c then .ok (.ins c fs) s1 else .stuck
  | .ex c v _ => .ex c v s1
  | _ => .stuck
  else .stuck
theorem dv_make (M : Mk X.K (C.cl c) f) (Fn : FnP X.prog X.w X.K X.mg X.base C.cl k f fd ps m) (hr : Room (k + 1) X.A) (gu : X.A.guards = some []) (tk : L2N.Takes X W) (hK : X.K = C.K) (hm : X.mg x = some (.ref (C.cl c))) (hb : Binds X.K fd ps ds) (hd : Vals dvs ds)
    (hdp : ∀ (D : Fx) (F : Hp), D.K = X.K → Rps D F dvs dps) (ha : DA X C W (e :: es) fa)
    (hg : Gl X x := by rfl) (hdb : (x == ("__debug__" : Str)) = false := by decide) (he : starEach (e :: es) X.env = (false, eval e X.env) :: starEach es X.env := by rfl) (hpl : (backTo pos (starEach es X.env)).any (·.1) = false := by rfl) (hnn : ps.length = n := by rfl) :
    DV X C W (.Call (.Name x p) (e :: es) [] pos) (eMake c m n dps fa) := by
  subst hnn
  obtain ⟨ta, pa, qa⟩ := ha.pr
  refine ⟨_, pe_mkG (E := fun σ c d H => W c d σ H) M Fn hr gu hg hm hb hd (fun σ => L2N.passAt tk σ) pa hdb he hpl, fun F A H σ s Q o pp => ?_⟩
  refine qa F A H σ s _ o (pp.seq fun l s1 vs F1 A1 H1 _ o1 st1 r1 p1 => ?_)
  intro a dx na nd hne
  split at p1
  · rename_i hl
    have rr : Rps (mkC C a) F1 (vs ++ dvs) (l ++ dps) := Rps.append (r1.cg (by rfl) (by rfl)) (hdp (mkC C a) F1 hK.symm)
    have hlen : (V.ref a :: (vs ++ dvs)).length = ps.length := by
      rw [List.length_cons, rr.length, List.length_append]
      exact hl
    refine ⟨hlen, mkC C a, F1, .bor 0 :: (l ++ dps).map .val, [.ins c []], hK.symm, rfl, make_in o1 na nd hne, .bor (k := 0) (C := mkC C a) (by show 0 < 1; omega) (RpA.vals rr), ?_⟩
    cases e3 : m (.bor 0 :: (l ++ dps).map .val) [.ins c []] with
    | ok v ms' =>
      rw [e3] at p1
      intro u F' H' o' st' r'
      cases v with
      | non =>
        match ms', o', p1 with
        | [.ins c' fs], o', p1 =>
          simp only at p1
          by_cases hc : c' = c
          · subst hc
            rw [if_pos rfl] at p1
            cases r'
            obtain ⟨F2, o2, st2, r2⟩ := make_frz o1 na nd hne o' st'
            exact ⟨rfl, p1 _ F2 A1 H' o2 st2 r2⟩
          · rw [if_neg hc] at p1; exact p1.elim
        | [], _, p1 => exact p1.elim
        | [.lst _], _, p1 => exact p1.elim
        | [.dct _], _, p1 => exact p1.elim
        | [.bag _ _ _ _], _, p1 => exact p1.elim
        | m1 :: _ :: _, _, p1 => cases m1 <;> exact p1.elim
      | _ => exact p1.elim
    | own mo ms' => rw [e3] at p1; exact p1.elim
    | ex c2 v ms' =>
      rw [e3] at p1
      intro d F' H' o' st' x'
      obtain ⟨o2, st2⟩ := make_out o1 na nd hne o' st'
      obtain ⟨u, h1, h2⟩ := x'
      exact p1 d F' A1 H' o2 st2 ⟨u, h1, h2.cg (by rfl) (by rfl)⟩
    | stuck => rw [e3] at p1; exact p1.elim
  · exact p1.elim
end
end PL
/-! PL31: defs of classes, defs with defaults; tables from their facts. -/
namespace PL
open PySem PySem.Spec PyProof.Rows L2
def clsAt (s : Stmt) (j : Nat) : Stmt := match s with
  | .ClassDef _ _ _ b _ _ _ _ _ _ _ => b.getD j (.Pass ⟨0, 0, 0, 0⟩)
  | _ => .Pass ⟨0, 0, 0, 0⟩
/-- a def as it stands behind the top, its defaults whatever they are -/
structure FunX (K : PySem.W.Frag) (x qual : Str) (st : Stmt) (f : Addr) (fd : FuncData) : Prop where
  ex : ∃ (oc : Value) (od : Option Addr) (dV kV doc pm : Value) (an : Option Addr) (cdv ct : Value) (osl : Array (Option Value)),
    fd = PySem.W.fnOf x qual (defArgs st) (defBody st) (defScope st) dV kV doc pm an cdv ct ∧ K.lookup f = some ⟨oc, od, .func fd, osl⟩ ∧ PySem.W.codeIn K cdv qual = true
  kp : PySem.W.keepIn K (.ref f) = true
section
variable {P : Program} {w : World} {K : PySem.W.Frag} {mg : Str → Option Value} {base : Heap} {cl : Str → Addr}
theorem funX_mk {x qual : Str} {st : Stmt} {f : Addr} {oc : Value} {od an : Option Addr} {osl : Array (Option Value)} {dV kV doc pm cdv ct : Value} (l : K.lookup f = some ⟨oc, od, .func (PySem.W.fnOf x qual (defArgs st) (defBody st) (defScope st) dV kV doc pm an cdv ct), osl⟩)
    (c : PySem.W.codeIn K cdv qual = true) (k : PySem.W.keepIn K (.ref f) = true) : FunX K x qual st f (PySem.W.fnOf x qual (defArgs st) (defBody st) (defScope st) dV kV doc pm an cdv ct) := ⟨⟨oc, od, dV, kV, doc, pm, an, cdv, ct, osl, rfl, l, c⟩, k⟩
theorem fng_ofX {Cn : CXT} {k : Nat} {x qual : Str} {st : Stmt} {f : Addr} {fd : FuncData} {N ps : List Str} {sp : Sp} (F : FunX K x qual st f fd) (S : FnScope N ps (defScope st))
    (gl : ∀ vs H Q E, sp vs H Q E → vs.length = ps.length)
    (hbody : ∀ (cdv : Value) (A : Around) (outer : List Env) (s : Shared) (H : Hp) (vs : List V) (Q : VK) (E : XK), Room k (A.deeper (envOfC qual (defScope st) s.heap.objs.size f cdv)) →
      A.guards = some [] → sp vs H Q E → ∃ t, PSs (cxOf Cn P w K mg base N qual (defScope st) f cdv A outer s H E) (defBody st) t ∧ t { nx := fun _ H' => Q .non H', rt := Q } (start N vs) H) :
    FnG P w K mg base Cn (k + 1) f fd ps sp := by
  obtain ⟨oc, od, dV, kV, doc, pm, an, cdv, ct, osl, rfl, lk, cod⟩ := F.ex
  refine ⟨gl, ?_⟩
  intro A outer s H args us vs Q E room gu e0 bnd rel hsp
  have hlen := gl _ _ _ _ hsp
  have inK : K.In s.heap := e0.mod.kin.keeps fun a u q => (e0.bs a u q).1
  have nolim : s.heap.NoLimit := e0.mod.nolimit.keeps fun a u q => (e0.bs a u q).1
  have kinds : ∀ y ∈ ps.zip us, (defScope st).names.lookup y.1 = some .local ∨
      ((defScope st).names.lookup y.1 = some .cell ∧ ((cellsFrom (s.heap.objs.size + 1) (defScope st).names []).lookup y.1).isSome = true) := by
    rintro ⟨n, v⟩ hy
    cases S.par n (List.of_mem_zip hy).1 with
    | inl z => exact .inl z
    | inr z => exact .inr ⟨z, PySem.W.cellsFrom_some _ _ _ (.inl z)⟩
  refine codeAny_call_function room.depth (inK _ _ lk) rfl S.co S.gen rfl (PySem.W.codeRec_of inK cod) (bnd _ _ _ _ ?_)
  refine wpAny_newFunctionEnv_cells S.kind kinds ?_
  intro env he s1 made
  subst he
  refine ⟨nolim.keeps made.toInCall.keep, codeAny_func ?_⟩
  obtain ⟨t, tr, tq⟩ := hbody cdv A outer s H vs Q E (room.deeper _) gu hsp
  have I0 := inv_start (CX := Cn) (E := E) S room.hd e0 hlen rel made
  refine wpAny_mono (tr.run [] s1 (start N vs) H _ I0 tq) ?_ fun e s' z => z
  intro fl s' end'
  cases fl with
  | brk => obtain ⟨_, _, _, z⟩ := end'; exact z.elim
  | cont => obtain ⟨_, _, _, z⟩ := end'; exact z.elim
  | next =>
    obtain ⟨σ', H', J, z⟩ := end'
    exact ⟨.non, H', J.os, J.bare, J.base, J.hok, rfl, z⟩
  | ret u =>
    obtain ⟨v, σ', H', J, rv, z⟩ := end'
    exact ⟨v, H', J.os, J.bare, J.base, J.hok, rv, z⟩
theorem fnpX {x qual : Str} {st : Stmt} {f : Addr} {fd : FuncData} {N ps : List Str} {k n : Nat} {g : Stt → Fl} (F : FunX K x qual st f fd) (S : FnScope N ps (defScope st)) (hn : N.length = n)
    (hbody : ∀ (cdv : Value) (A : Around) (outer : List Env) (s : Shared) (H : Hp) (E : XK) (C : Fx), C.K = K → C.cl = cl → Room k (A.deeper (envOfC qual (defScope st) s.heap.objs.size f cdv)) →
      Bd (cxOf (L2N.CX P w) P w K mg base N qual (defScope st) f cdv A outer s H E) (fun c d _ H => E c d H) →
      DSs (cxOf (L2N.CX P w) P w K mg base N qual (defScope st) f cdv A outer s H E) C (fun c d _ H => E c d H) (defBody st) g) : FnP P w K mg base cl (k + 1) f fd ps (mOf n g) := by
  subst hn
  refine fng_ofX F S (fun vs H Q E h => h.1) (fun cdv A outer s H vs Q E hr gu h => ?_)
  obtain ⟨hl, C, F0, as, mu, hK, hcl, o, r, p⟩ := h
  have bd : Bd (cxOf (L2N.CX P w) P w K mg base N qual (defScope st) f cdv A outer s H E) (fun c d _ H => E c d H) := ⟨rfl, passes_of (K := fun e s'' => L2N.CX P w outer H s E e s'') rfl, L2N.takes_of rfl rfl rfl rfl, hr.hd, gu⟩
  obtain ⟨t, h1, h2⟩ := (hbody cdv A outer s H E C hK hcl hr bd).pr
  exact ⟨t, h1, h2 F0 noA H _ _ _ (okF_start (N := N) o r) (postF_end (fun _ _ _ _ h => h) p)⟩
/-- the last parameter has a default -/
theorem binds_d1 {x qual : Str} {params : Arguments} {body : List Stmt} {scope : Scope} {f T t : Addr} {oc oc2 : Value} {od od2 an : Option Addr} {osl osl2 : Array (Option Value)} {kV doc pm cdv ct : Value} {n m : Nat} {ps : List Str}
    (lT : K.lookup T = some ⟨oc2, od2, .seq #[.ref t] n, osl2⟩) (hm : m + 1 = ps.length)
    (h : ∀ us : List Value, us.length = m → ∃ k, bindArgs (PySem.W.fnOf x qual params body scope (.ref T) kV doc pm an cdv ct) ⟨us, []⟩ = seqItems? (.ref T) >>= k ∧ k (some #[.ref t]) = pure (ps.zip (us ++ [.ref t]))) :
    Binds K (PySem.W.fnOf x qual params body scope (.ref T) kV doc pm an cdv ct) ps [.ref t] := by
  intro s us X hlen
  have l2 : us.length = m := by
    rw [List.length_append, List.length_singleton] at hlen
    omega
  obtain ⟨k, e1, e2⟩ := h us l2
  refine BindsTo.of_looks fun M => ?_
  rw [e1]
  exact looks_items X lT rfl (.of_pure e2)
end
section
variable {X : Cx} {C : Fx} {W : WX} {k n : Nat} {f : Addr} {fd : FuncData} {ps : List Str} {x c : Str} {p pos : Pos} {e : Expr} {es : List Expr} {m : List SV → List MO → FRes} {fa : Stt → Res (List PV)}
/-- K(e, ..), the last parameter left out -/
theorem dv_make1 {dp : PV} (M : Mk X.K (C.cl c) f) (Fn : FnP X.prog X.w X.K X.mg X.base C.cl k f fd ps m) (hr : Room (k + 1) X.A) (gu : X.A.guards = some []) (tk : L2N.Takes X W) (hK : X.K = C.K) (hm : X.mg x = some (.ref (C.cl c))) (hb : ∃ u, Binds X.K fd ps [u] ∧ KvV X.K u dp) (ha : DA X C W (e :: es) fa)
    (hg : Gl X x := by rfl) (hdb : (x == ("__debug__" : Str)) = false := by decide) (he : starEach (e :: es) X.env = (false, eval e X.env) :: starEach es X.env := by rfl) (hpl : (backTo pos (starEach es X.env)).any (·.1) = false := by rfl) (hnn : ps.length = n := by rfl) :
    DV X C W (.Call (.Name x p) (e :: es) [] pos) (eMake c m n [dp] fa) := by
  obtain ⟨u, h1, h2⟩ := hb
  obtain ⟨v, h3, h4⟩ := h2.rp
  exact dv_make M Fn hr gu tk hK hm h1 (.cons h3 .nil) (fun D F e => .cons (h4 D F e) .nil) ha hg hdb he hpl hnn
end
/-! ### tables from their facts -/
inductive KvL (K : PySem.W.Frag) (p : Addr) : List (Str × PV) → Prop
  | nil : KvL K p []
  | cons {k : Str} {u : Value} {v : PV} {r : List (Str × PV)} : PySem.W.nsIn K p k = some (some u) → KvV K u v → KvL K p r → KvL K p ((k, v) :: r)
theorem KvL.look {K : PySem.W.Frag} {p : Addr} {k : Str} {pv : PV} : ∀ {tbl : List (Str × PV)}, KvL K p tbl → tbl.lookup k = some pv → ∃ u, PySem.W.nsIn K p k = some (some u) ∧ KvV K u pv
  | [], _, h => by simp at h
  | (k', v) :: r, .cons h1 h2 h3, h => by
    rw [List.lookup_cons] at h
    cases e : (k == k') with
    | true =>
      rw [e] at h
      cases h
      have ek : k = k' := eq_of_beq e
      subst ek
      exact ⟨_, h1, h2⟩
    | false =>
      rw [e] at h
      exact KvL.look h3 h
theorem dct_mk {w : World} {K : PySem.W.Frag} {mg : Str → Option Value} {x : Str} {tbl : List (Str × PV)} {p : Addr} {es : Array DictEntry} {n : Nat} {ks : List Str} (hm : mg x = some (.ref p)) (hl : K.lookup p = some ⟨.type "dict", none, .dict es n, #[]⟩)
    (hk : es.toList.map He.keyOf = He.keysIn w.params ks) (low : (p == sysModules) = false) (h : KvL K p tbl) : DctT w K mg x tbl :=
  ⟨p, es, n, hm, ⟨hl, He.keysLit_of hk, low⟩, fun _ _ e => h.look e⟩
end PL
/-! PL32: list(range(a, b)), numbers of any size. -/
namespace PL
open PySem PySem.Spec PyProof.Rows L2
section
variable {X : Cx} {C : Fx} {W : WX} {a b : Expr} {pos : Pos} {fe fb : Stt → Res PV} {e : Expr} {te : L2.St → Hp → (Int → Int → Hp → Prop) → Prop}
def oRgW (i j : Int) (s : Stt) : Res MO := if j - i ≤ 16777216 then .ok (.lst (rng i (j - i).toNat)) s else .stuck
def oRgW2 (fa fb : Stt → Res PV) : Stt → Res MO := fun s => (fa s).bind fun p s1 => (fb s1).bind fun q s2 => match p, q with
  | .int i, .int j => oRgW i j s2
  | _, _ => .stuck
end
end PL
/-! PL33: enumerate(e), e a list or a tuple. -/
namespace PLT2
open PySem
open AutoSeq1 (wpAny_loadPart')
theorem meets_enum_tup (l : Addr) (items : Array Value) (n : Nat) (dct : Option Addr) (sl : Array (Option Value)) :
    Meets (Builtin.«enumerate.__new__» ⟨[.type "enumerate", .ref l], []⟩) (fun _ R s => s.heap.get? l = some { cls := .type "tuple", dict := dct, data := .seq items n, slots := sl } ∧
      R (.ok (.ret (.ref (s.heap.push { cls := .type "tuple_iterator", data := .fields #[.ref l, .int 0 0] }).objs.size)))
        { s with heap := (s.heap.push { cls := .type "tuple_iterator", data := .fields #[.ref l, .int 0 0] }).push { cls := .type "enumerate", data := .fields #[.none, .bool false, .ref s.heap.objs.size, rawInt 0, .none, .none] } }) :=
  .of_wp fun prog w A R s h => by
    obtain ⟨hp, g, d, tk, os⟩ := s; obtain ⟨hl, h⟩ := h
    have hsub := sub_enumerate
    have hL : Heap.IsTuple (Shared.heap ⟨hp, g, d, tk, os⟩) l items := ⟨_, hl, rfl, n, rfl⟩
    wp_walk using wpAny_loadPart' hl
    refine wpAny_stack_any fun st => wpAny_pure ?_
    split
    · rename_i c _ _ _ _ _
      cases (c == Value.type "enumerate") <;> (wp_walk using wpAny_loadPart' hl, wpAny_pyIter_tuple hL; exact ⟨_, rfl, h⟩)
    · wp_walk using wpAny_loadPart' hl, wpAny_pyIter_tuple hL
      exact ⟨_, rfl, h⟩
section
variable {prog : Program} {w : World} {A : Around} {E : Value → Shared → Prop} {s : Shared}
theorem call_enum_tup {l : Addr} {items : Array Value} {Q : Value → Shared → Prop} (hL : s.heap.IsTuple l items)
    (h : ∀ h', IsEnum h' (s.heap.objs.size + 1) s.heap.objs.size 0 .none → h'.IsTupleIter s.heap.objs.size l 0 → h'.objs.size = s.heap.objs.size + 2 →
      (∀ b o, s.heap.get? b = some o → h'.get? b = some o) → Q (.ref (s.heap.objs.size + 1)) { s with heap := h' }) :
    wpAny (model prog w) A (call (.type "enumerate") [.ref l]) Q E s := by
  obtain ⟨⟨c, dct, dt, sl⟩, hl, hc, n, hd⟩ := hL
  replace hc : c = .type "tuple" := hc
  replace hd : dt = .seq items n := hd
  subst hc hd
  refine callType_new F.called_enumerate (by decide) (F.typeCall_enumerate_1 _) (F.newCall_enumerate_1 _) (fun obj => F.args_object_init_2 obj _) F.entry_enumerate_new
    (meets_enum_tup l items n dct sl) ⟨hl, ?_⟩
  have hz : (s.heap.push { cls := .type "tuple_iterator", data := .fields #[.ref l, .int 0 0] }).objs.size = s.heap.objs.size + 1 := Heap.size_push ..
  show _ ∧ _
  rw [hz]
  have he : IsEnum ((s.heap.push { cls := .type "tuple_iterator", data := .fields #[.ref l, .int 0 0] }).push
      { cls := .type "enumerate", data := .fields #[.none, .bool false, .ref s.heap.objs.size, rawInt 0, .none, .none] }) (s.heap.objs.size + 1) s.heap.objs.size 0 .none := by
    have := Heap.get?_push_size (s.heap.push { cls := .type "tuple_iterator", data := .fields #[.ref l, .int 0 0] })
      (o := { cls := .type "enumerate", data := .fields #[.none, .bool false, .ref s.heap.objs.size, rawInt 0, .none, .none] }) rfl
    rw [hz] at this; exact this
  refine ⟨⟨_, he, rfl⟩, h _ he ⟨_, Heap.get?_push_of_some _ (Heap.get?_push_size _ rfl), rfl, rfl⟩ (by rw [Heap.size_push, hz]) fun b o x => Heap.get?_push_of_some _ (Heap.get?_push_of_some _ x)⟩
end
end PLT2
namespace PL
open PySem PySem.Spec PyProof.Rows L2
/-- the tuple at a, each item in a new pair -/
def IteT (K : PySem.W.Frag) (a : Addr) : It :=
  ⟨fun i H => ∃ (xs : List V) (x : V), SqT K H a xs ∧ xs[i]? = some x, fun i H v H' => ∃ T x, v = .ref T ∧ H T = none ∧ H' = L2.upd H T (.tup [.int (i : Nat), x]) ∧ ∀ xs, SqT K H a xs → xs[i]? = some x, fun i H => ∃ xs : List V, SqT K H a xs ∧ xs.length ≤ i⟩
theorem turn_enumT {P : Program} {w : World} {K : PySem.W.Frag} {elts : List Expr} {kk : Nat} {tpos : Pos} (a e it : Addr) :
    Turn P w K (.Tuple elts kk tpos) (IteT K a) [e, it] e (fun i h => (∃ old, IsEnum h e it ((i : Nat) : Int) old) ∧ h.IsTupleIter it a i ∧ e ≠ it) where
  mem := by simp
  obj := fun i h st b hb => by
    obtain ⟨⟨old, he⟩, ⟨o, ho, hc, hd⟩, _⟩ := st
    have e' : b = e ∨ b = it := by simpa using hb
    rcases e' with z | z
    · rw [z]; exact ⟨_, he, fun v q => nomatch q⟩
    · rw [z]; exact ⟨o, ho, fun v q => by rw [hd] at q; cases q⟩
  keep := fun i h h' st k => let ⟨⟨old, he⟩, hi, hne⟩ := st; ⟨⟨old, k e (by simp) _ he⟩, hi.at fun o q => k it (by simp) o q, hne⟩
  item := by
    intro X hP hw hK hc i pins s σ H E I hf st hg
    subst hP hw hK
    obtain ⟨⟨old, he⟩, hit, hne⟩ := st
    obtain ⟨xs, x, hq, hx⟩ := hg
    obtain ⟨its, rv, p, hz⟩ := I.tuple hq
    obtain ⟨u, hu, ru⟩ := rv.get hx
    have hel : e < s.heap.objs.size := Heap.lt_size he
    have hil : it < s.heap.objs.size := by obtain ⟨_, q, _⟩ := hit; exact Heap.lt_size q
    have hT : s.heap.IsTuple a its.toArray := p
    have hau : a ≠ it := by
      intro z
      obtain ⟨o1, q1, q2, _⟩ := hT
      obtain ⟨o2, q3, q4, _⟩ := hit
      rw [z, q3] at q1
      cases q1
      rw [q4] at q2
      exact absurd (Value.type.inj q2) (by decide)
    have hae : e ∉ [it, a] := by
      intro z
      rcases List.mem_cons.mp z with z | z
      · exact hne z
      · rw [List.mem_singleton] at z
        obtain ⟨o1, q1, q2, _⟩ := hT
        rw [← z, he] at q1
        cases q1
        exact absurd (Value.type.inj q2) (by decide)
    have D := Draws.tuple (prog := X.prog) (w := X.w) (A := X.A.in1) (I.ok.hd hc) it a hau its.toArray
    have hi : i < its.toArray.size := by
      have := (List.getElem?_eq_some_iff.mp hu).1
      simpa using this
    refine wpAny_pyNext_enum_itemD D he ⟨hit, hT⟩ hi hne hae fun x' h' tk hx' ho hst hTn hsz hk => ?_
    have ex : u = x' := by
      have h1 : its.toArray[i]? = some x' := hx'
      rw [List.getElem?_toArray, hu] at h1
      exact Option.some.inj h1
    subst ex
    refine ⟨_, rfl, wpAny_letOwnedTupleGo_enum (s := { s with heap := h', toks := tk + 1 }) ho fun h'' he' sb => ?_⟩
    have hT2 : h''.get? s.heap.objs.size = some { cls := .type "tuple", data := .seq #[.int i tk, u] } := (sb.2 _ (Nat.ne_of_gt hel)).trans hTn
    have new : ObjOk X.prog X.w (L2.upd H s.heap.objs.size (.tup [.int (i : Nat), x])) h'' s.heap.objs.size (.tup [.int (i : Nat), x]) :=
      ⟨by show 2 ≤ sizeLine; decide, [.int i tk, u], .cons ⟨_, rfl⟩ (.cons ru .nil), ⟨_, hT2, rfl, _, rfl⟩⟩
    have I1 : Inv X pins σ (L2.upd H s.heap.objs.size (.tup [.int (i : Nat), x])) { s with heap := h'', toks := tk + 1 } :=
      I.turnedNew (ch := [e, it]) (fun b ob hb q => (sb.2 b (fun z => hb (by simp [z]))).trans (hk b ob (fun z => hb (by simp [z])) (fun z => hb (by simp [z])) q)) hf (Nat.le_refl _) new
    refine ⟨.ref s.heap.objs.size, _, I1, rfl, ⟨_, x, rfl, I.hok.fresh (Nat.le_refl _), rfl, fun ys hy => by rw [I.tuple_inj hy hq]; exact hx⟩, ⟨⟨u, ?_⟩, hst.1.at fun o q => (sb.2 it (Ne.symm hne)).trans q, hne⟩, fun b hb => ?_⟩
    · have e1 : ((i + 1 : Nat) : Int) = (i : Int) + 1 := by omega
      rw [e1]; exact he'
    · have hb' : b < s.heap.objs.size := by
        have e' : b = e ∨ b = it := by simpa using hb
        rcases e' with z | z
        · rw [z]; exact hel
        · rw [z]; exact hil
      rw [L2.upd_ne (Nat.ne_of_lt hb')]
      exact (hf b hb).1
  done := by
    intro X hP hw hK hc i pins s σ H E I hf st hg
    subst hP hw hK
    obtain ⟨⟨old, he⟩, hit, hne⟩ := st
    obtain ⟨xs, hq, hx⟩ := hg
    obtain ⟨its, rv, p, hz⟩ := I.tuple hq
    have hT : s.heap.IsTuple a its.toArray := p
    obtain ⟨f0, f1, f2, f3, f4, f5⟩ := hf it (by simp)
    have hl := rv.length
    unfold pyNext
    have hTy : s.TypeIs (.ref e) "enumerate" := ⟨_, he, rfl⟩
    refine wpAny_bind (wpAny_attempt (wpAny_callSpecial?_slot (name := Str.ofString "__next__") hTy F.slot_enumerate_next
      (wpAny_call_entry F.slot_enumerate_next hTy F.entry_enumerate_next ?_ (F.args_enumerate_next_1 _))))
    show wpAny _ _ (field (.ref e) 2 >>= _) _ _ _
    refine wpAny_bind (wpAny_field he rfl (x := .ref it) rfl ?_)
    refine wpAny_bind (wpAny_nextOf_tuple_end (I.ok.hd hc) hit hT (by simp; omega) fun h' x' he' hx' => ?_)
    obtain ⟨o, ho, hcc⟩ := hx'
    refine wpAny_bind (wpAny_isInstance (T := "StopIteration") (b := true) ⟨o, ho, hcc⟩ isSubtype_stop ?_)
    exact wpAny_pure ⟨rfl, I.turned (t' := s.toks) (fun b o hb q => he' b o hb q) f0 f1 f3 f4 f5⟩
  self := fun A i s Q E st h => let ⟨⟨_, he⟩, _⟩ := st; wpAny_pyIter_enum he h
def iEnumA (K : PySem.W.Frag) (ta : TA) : TI := fun σ H R => ta σ H fun vs H1 => ∃ a xs, vs = [.ref a] ∧ ((SqL K H1 a xs ∧ R (Ite K a) H1) ∨ (SqT K H1 a xs ∧ R (IteT K a) H1))
theorem pi_enumA {X : Cx} {e : Expr} {ta : TA} {p pos tpos : Pos} {elts : List Expr} {kk : Nat} (hg : Gl X "enumerate") (hm : X.mg "enumerate" = none) (ha : PA X [e] ta) (hs : starEach [e] X.env = [(false, eval e X.env)]) :
    PI X (.Tuple elts kk tpos) (.Call (.Name "enumerate" p) [e] [] pos) (iEnumA X.K ta) := by
  refine ⟨fun pins s σ H R I h => ?_⟩
  refine Call_ (ld_blt I hg hm boot_enumerate (PyProof.Rows.callWith_type1 (thn (ha.run pos pins s σ H _ I h) fun us s1 ⟨vs, H1, I1, r1, q1⟩ => ?_) hs rfl))
  obtain ⟨a, xs, ex, q⟩ := q1
  subst ex
  cases r1 with
  | cons r rr =>
    cases rr
    cases r
    rcases q with ⟨hq, q⟩ | ⟨hq, q⟩
    · obtain ⟨its, rv, p', hz⟩ := I1.list hq
      refine call_enumerate_list p'.isList fun h' he hit hsz hk => wpAny_pyIter_enum he ?_
      have I2 : Inv X pins σ H1 { s1 with heap := h' } := I1.kept (t' := s1.toks) hk
      refine ⟨s1.heap.objs.size + 1, [s1.heap.objs.size + 1, s1.heap.objs.size], _, _, H1, rfl, I2, turn_enum a (s1.heap.objs.size + 1) s1.heap.objs.size, ⟨⟨.none, he⟩, hit, Nat.succ_ne_self _⟩, fun b hb => ?_, q⟩
      have e' : b = s1.heap.objs.size + 1 ∨ b = s1.heap.objs.size := by simpa using hb
      have hle : s1.heap.objs.size ≤ b := by
        rcases e' with z | z
        · rw [z]; exact Nat.le_add_right _ _
        · rw [z]; exact Nat.le_refl _
      exact I1.fpOk hle (I1.hok.fresh hle)
    · obtain ⟨its, rv, p', hz⟩ := I1.tuple hq
      refine PLT2.call_enum_tup (show s1.heap.IsTuple a its.toArray from p') fun h' he hit hsz hk => wpAny_pyIter_enum he ?_
      have I2 : Inv X pins σ H1 { s1 with heap := h' } := I1.kept (t' := s1.toks) hk
      refine ⟨s1.heap.objs.size + 1, [s1.heap.objs.size + 1, s1.heap.objs.size], _, _, H1, rfl, I2, turn_enumT a (s1.heap.objs.size + 1) s1.heap.objs.size, ⟨⟨.none, he⟩, hit, Nat.succ_ne_self _⟩, fun b hb => ?_, q⟩
      have e' : b = s1.heap.objs.size + 1 ∨ b = s1.heap.objs.size := by simpa using hb
      have hle : s1.heap.objs.size ≤ b := by
        rcases e' with z | z
        · rw [z]; exact Nat.le_add_right _ _
        · rw [z]; exact Nat.le_refl _
      exact I1.fpOk hle (I1.hok.fresh hle)
theorem walk_enumT {K : PySem.W.Frag} {a : Addr} {xs : List V} : Walk (IteT K a) xs.length (fun H => SqT K H a xs) (YPair (fun i => some (.int (i : Nat))) (fun i => xs[i]?)) := by
  refine ⟨fun i _ hi q => ⟨xs, xs[i], q, by simp [hi]⟩, fun _ q => ⟨xs, q, Nat.le_refl _⟩, fun i H v H' _ q y => ?_⟩
  obtain ⟨T, x, h1, h2, h3, h4⟩ := y
  exact ⟨T, .int (i : Nat), x, h1, h2, h3, rfl, h4 xs q⟩
section
variable {X : Cx} {C : Fx} {W : WX} {e : Expr} {pos : Pos} {fa : Stt → Res (List PV)}
def iEnumQ (fa : Stt → Res (List PV)) : Stt → Res (List PV) := fun s => (fa s).bind fun p s1 => match p with
  | [.lst l] => .ok (enumP l) s1
  | [.tup l] => .ok (enumP l) s1
  | [.scr l] => .ok (enumP l) s1
  | _ => .stuck
theorem di_enumQ {p tpos : Pos} {elts : List Expr} {kk : Nat} (hK : X.K = C.K) (hg : Gl X "enumerate") (hm : X.mg "enumerate" = none) (ha : DA X C W [e] fa) (hs : starEach [e] X.env = [(false, eval e X.env)] := by rfl) :
    DI X C W (.Tuple elts kk tpos) (.Call (.Name "enumerate" p) [e] [] pos) (iEnumQ fa) := by
  obtain ⟨te, pe, qe⟩ := ha.pr
  refine ⟨_, pi_enumA hg hm pe hs, fun F A H σ s Q o p => ?_⟩
  refine qe F A H σ s _ o (p.seq fun l s1 v F1 A1 H1 _ o1 st1 r1 p1 => ?_)
  have fin : ∀ (b : Addr) (xs : List V) (l : List PV), (∀ H2, Same F1 H2 → SqL X.K H2 b xs) → Rps C F1 xs l → Post C W (RI C) F1 A1 H1 σ (.ok (enumP l) s1) Q → Q (Ite X.K b) H1 := fun b xs l hS hr pp => by
    refine Post.now o1 pp ⟨fun H => SqL X.K H b xs, _, ?_, hS, enum_ok hr⟩
    rw [enumP_len, ← hr.length]
    exact walk_enum
  have finT : ∀ (b : Addr) (xs : List V) (l : List PV), (∀ H2, Same F1 H2 → SqT X.K H2 b xs) → Rps C F1 xs l → Post C W (RI C) F1 A1 H1 σ (.ok (enumP l) s1) Q → Q (IteT X.K b) H1 := fun b xs l hS hr pp => by
    refine Post.now o1 pp ⟨fun H => SqT X.K H b xs, _, ?_, hS, enum_ok hr⟩
    rw [enumP_len, ← hr.length]
    exact walk_enumT
  unfold iEnumQ at p
  split at p1
  · obtain ⟨u, rfl, h⟩ := rps1 r1
    cases h with
    | @lst b xs l h1 h2 => exact ⟨b, xs, rfl, .inl ⟨.of (o1.sub _ _ h1), fin b xs _ (fun H2 sm => .of (sm _ _ h1)) h2 p1⟩⟩
  · obtain ⟨u, rfl, h⟩ := rps1 r1
    cases h with
    | @tup b xs l h1 h2 => exact ⟨b, xs, rfl, .inr ⟨by rw [hK]; exact sqT_mono o1.sub h1, finT b xs _ (fun H2 sm => by rw [hK]; exact sqT_mono sm h1) h2 p1⟩⟩
  · obtain ⟨u, rfl, h⟩ := rps1 r1
    cases h with
    | @scr b xs l h1 h2 => exact ⟨b, xs, rfl, .inl ⟨by rw [hK]; exact o1.sub.seq h1, fin b xs _ (fun H2 sm => by rw [hK]; exact sm.seq h1) h2 p1⟩⟩
  · exact p1.elim
end
end PL
/-! PL34: a list of lists that grow. -/
namespace PL
open PySem PySem.Spec PyProof.Rows L2
section
variable {C : Fx} {F H : Hp}
theorem Lls.len : ∀ {as : List Addr} {ls : List (List PV)}, Lls C F H as ls → as.length = ls.length
  | [], [], _ => rfl
  | a :: as, l :: ls, ⟨_, h⟩ => by rw [List.length_cons, List.length_cons, Lls.len h]
  | [], _ :: _, h => h.elim
  | _ :: _, [], h => h.elim
theorem Lls.get : ∀ {as : List Addr} {ls : List (List PV)} {i : Nat} {l : List PV}, Lls C F H as ls → ls[i]? = some l → ∃ a xs, as[i]? = some a ∧ H a = some (.lst xs) ∧ Rps C F xs l
  | [], [], _, _, _, e => by simp at e
  | a :: as, l :: ls, 0, _, ⟨⟨xs, h1, h2⟩, _⟩, e => by simp at e; subst e; exact ⟨a, xs, rfl, h1, h2⟩
  | a :: as, l :: ls, i + 1, _, ⟨_, h⟩, e => by
    obtain ⟨b, xs, h1, h2⟩ := Lls.get (i := i) h (by simpa using e)
    exact ⟨b, xs, by simpa using h1, h2⟩
  | [], _ :: _, _, _, h, _ => h.elim
  | _ :: _, [], _, _, h, _ => h.elim
theorem Lls.set {a : Addr} {ys : List V} {l2 : List PV} (r : Rps C F ys l2) : ∀ {as : List Addr} {ls : List (List PV)} {i : Nat}, as.Nodup → Lls C F H as ls → as[i]? = some a → Lls C F (upd H a (.lst ys)) as (ls.set i l2)
  | [], [], _, _, _, e => by simp at e
  | b :: as, l :: ls, 0, nd, ⟨⟨xs, h1, h2⟩, h⟩, e => by
    simp at e; subst e
    refine ⟨⟨ys, upd_same, r⟩, h.keep (fun _ _ z => z) fun c o hc ho => ?_⟩
    rw [upd_ne (show c ≠ b from fun z => (List.nodup_cons.mp nd).1 (z ▸ hc))]; exact ho
  | b :: as, l :: ls, i + 1, nd, ⟨⟨xs, h1, h2⟩, h⟩, e => by
    have e : as[i]? = some a := by simpa using e
    have hne : b ≠ a := fun z => (List.nodup_cons.mp nd).1 (by rw [z]; exact List.mem_of_getElem? e)
    exact ⟨⟨xs, by rw [upd_ne hne]; exact h1, h2⟩, Lls.set r (List.nodup_cons.mp nd).2 h e⟩
  | [], _ :: _, _, _, h, _ => h.elim
  | _ :: _, [], _, _, h, _ => h.elim
end
/-! ### a list of lists is a plain value from now on -/
theorem Lls.plain {C : Fx} {F F2 H : Hp} (e : Same F F2) : ∀ {as : List Addr} {ls : List (List PV)}, Lls C F H as ls → (∀ b, b ∈ as → F2 b = H b) → Rps C F2 (as.map V.ref) (ls.map PV.lst)
  | [], [], _, _ => .nil
  | a :: as, l :: ls, ⟨⟨xs, h1, h2⟩, h⟩, k => .cons (.lst (by rw [k a List.mem_cons_self]; exact h1) (h2.mono e)) (Lls.plain e h fun b hb => k b (List.mem_cons_of_mem _ hb))
  | [], _ :: _, h, _ => h.elim
  | _ :: _, [], h, _ => h.elim
/-! ### x[b].append(y), y a name -/
/-! ### [[] for ..] -/
end PL
/-! PL35: starred displays, the length of an own list, methods called. -/
namespace PL
open PySem PySem.Spec PyProof.Rows L2
section
variable {X : Cx} {C : Fx} {W : WX} {e o : Expr} {es : List Expr} {pos : Pos} {fe : Stt → Res PV} {fs : Stt → Res (List PV)}
def itemsP : PV → Option (List PV)
  | .lst l => some l
  | .tup l => some l
  | .scr l => some l
  | _ => none
def aStar (fe : Stt → Res PV) (fs : Stt → Res (List PV)) : Stt → Res (List PV) := fun s => (fe s).bind fun p s1 => match itemsP p with
  | some l => (fs s1).bind fun q s2 => .ok (l ++ q) s2
  | none => .stuck
theorem da_star {p : Pos} (hK : X.K = C.K) (he : DV X C W e fe) (hs : DA X C W es fs) (ht : starEach (.Starred e p :: es) X.env = (true, eval e X.env) :: starEach es X.env := by rfl) : DA X C W (.Starred e p :: es) (aStar fe fs) := by
  obtain ⟨te, pe, qe⟩ := he.pr
  obtain ⟨tb, pb, qb⟩ := hs.pr
  refine ⟨_, StX.pa_star pe pb ht, fun F A H σ s Q ok pp => ?_⟩
  refine qe F A H σ s _ ok (pp.seq fun q1 s1 v1 F1 A1 H1 _ o1 st1 r1 p1 => ?_)
  cases r1 with
  | @lst a xs l h1 h2 =>
    refine ⟨a, xs, rfl, .inr (.of (o1.sub _ _ h1)), ?_⟩
    refine qb F1 A1 H1 σ s1 _ o1 (p1.seq fun q2 s2 v2 F2 A2 H2 _ o2 st2 r2 p2 => ?_)
    exact Post.now o2 p2 ((h2.mono st2.s1).append r2)
  | @tup a xs l h1 h2 =>
    refine ⟨a, xs, rfl, .inl (by rw [hK]; exact sqT_mono o1.sub h1), ?_⟩
    refine qb F1 A1 H1 σ s1 _ o1 (p1.seq fun q2 s2 v2 F2 A2 H2 _ o2 st2 r2 p2 => ?_)
    exact Post.now o2 p2 ((h2.mono st2.s1).append r2)
  | @scr a xs l h1 h2 =>
    refine ⟨a, xs, rfl, .inr (by rw [hK]; exact o1.sub.seq h1), ?_⟩
    refine qb F1 A1 H1 σ s1 _ o1 (p1.seq fun q2 s2 v2 F2 A2 H2 _ o2 st2 r2 p2 => ?_)
    exact Post.now o2 p2 ((h2.mono st2.s1).append r2)
  | _ => exact p1.elim
end
/-! ### methods -/
theorem Rpf.none {C : Fx} {F : Hp} {n : Str} : ∀ {fs : List (Str × V)} {l : List (Str × PV)}, Rpf C F fs l → l.lookup n = none → fs.lookup n = none
  | _, _, .nil, _ => rfl
  | _, _, .cons (n := k) h r, e => by
    rw [List.lookup_cons] at e ⊢
    cases z : (n == k) with
    | true => rw [z] at e; cases e
    | false => rw [z] at e; exact Rpf.none r e
end PL
/-! PL36: a list grows by a tuple's items. -/
namespace PL
open PySem PySem.Spec PyProof.Rows L2
end PL
/-! PL37: properties read, len(x) and x == y, x != y by own methods. -/
namespace PL
open PySem PySem.Spec PyProof.Rows L2
end PL
/-! PL38: isinstance(e, K) of an instance of K; a class with its own __eq__, from its facts. -/
namespace PL
open PySem PySem.Spec PyProof.Rows L2
end PL
/-! PL39: x + y by an own __add__; methods with arguments. -/
namespace PL
open PySem PySem.Spec PyProof.Rows L2
end PL
/-! PL40: sorted(e), e an ascending list of whole numbers. -/
namespace PL
open PySem PySem.Spec PyProof.Rows L2
end PL
/-! PL41: x, y = value, fresh list, where a name is no plain local. -/
namespace PL
open PySem PySem.Spec PyProof.Rows L2
end PL
/-! PL42: a comprehension with two fors. -/
namespace PL
open PySem PySem.Spec PyProof.Rows L2
section
variable {X : Cx} {C : Fx} {W : WX} {elt tg iter tg1 iter1 : Expr} {ifs ifs1 : List Expr} {scope : Scope} {own : List (Str × Nat)} {vs1 : List Nat} {pos : Pos} {fi fi1 : Stt → Res (List PV)} {a a1 : PV → Stt → Option Stt} {ft ft1 : Stt → Res Bool} {fe : Stt → Res PV}
def cTI (C : Fx) (W : WX) (f : Stt → Res (List PV)) : TI := fun σ H Q => ∃ F A s, OkF C F A H σ s ∧ Post C W (RI C) F A H σ (f s) Q
theorem DI.c {tg iter : Expr} (h : DI X C W tg iter fi) : PI X tg iter (cTI C W fi) := by
  obtain ⟨t, p, q⟩ := h.pr
  exact ⟨fun pins s σ H R I ⟨F, A, s1, o, pp⟩ => p.run pins s σ H R I (q F A H σ s1 R o pp)⟩
end
end PL
/-! PL43: calls f( *t ) and f( *t, v, .. ) of defs with plain values. -/
namespace PL
open PySem PySem.Spec PyProof.Rows L2
end PL
/-! PL44: x in t, x not in t for a tuple t of data. -/
namespace PL
open PySem PySem.Spec PyProof.Rows L2
end PL
/-! PL45: defs whose last parameter has a default: all written, the last one left out, keywords. -/
namespace PL
open PySem PySem.Spec PyProof.Rows L2
end PL
/-! PL46: min(e) of a list of tuples of ints. -/
namespace PL
open PySem PySem.Spec PyProof.Rows L2
end PL
/-! PL47: sorted(e), e an ascending list of pairs of whole numbers. -/
namespace PL
open PySem PySem.Spec PyProof.Rows L2
end PL
/-! PL48: int of a text. -/
namespace PL
open PySem PySem.Spec PyProof.Rows L2
end PL
namespace PL
open PySem PySem.Spec PyProof.Rows L2
end PL
/-! PL49: a def that calls itself: the mirror with no fuel left is stuck. -/
namespace PL
open PySem PySem.Spec PyProof.Rows L2
section
variable {P : Program} {w : World} {K : PySem.W.Frag} {mg : Str → Option Value} {base : Heap} {cl : Str → Addr}
theorem fnp_stuck {x qual : Str} {st : Stmt} {f : Addr} {fd : FuncData} {N ps : List Str} {k : Nat} (F : Fun K x qual st f fd) (S : FnScope N ps (defScope st)) : FnP P w K mg base cl (k + 1) f fd ps (fun _ _ => .stuck) := by
  refine fng_of F S (fun vs H Q E h => h.1) (fun cdv A outer s H vs Q E hr gu h => ?_)
  obtain ⟨hl, C, F0, as, mu, hK, hcl, o, r, p⟩ := h
  exact p.elim
end
end PL
/-! PL51: sorted(e), e any list of whole numbers. -/
namespace PL
open PySem PySem.Spec PyProof.Rows L2
end PL
/-! PLB: the bag: a dict of three numbers and a list of numbers, under written keys. -/
namespace PL
open PySem PySem.Spec PyProof.Rows L2
/-! ### t < u, tuples of numbers -/
end PL
/-! PLU: sorted(set(xs)), xs a list of ints; xs.count(x). -/
namespace PL
open PySem PySem.Spec PyProof.Rows L2
/-! ### the numbers of a list, each once, ascending -/
end PL
/-! PLD: dicts by numbers: {}, d.get(k, x), d[k] = v; lists made by a walk over such a dict's keys (it is locked then: PV.dcv). -/
namespace PL
open PySem PySem.Spec PyProof.Rows L2
/-! ### tables -/
def valP (kvs : List (Key × PV)) (k : Key) : Option PV := (kvs.find? fun kv => decide (kv.1 = k)).map (·.2)
def putKP (kvs : List (Key × PV)) (k : Key) (v : PV) : List (Key × PV) :=
  if (kvs.any fun kv => decide (kv.1 = k)) = true then kvs.map (fun kv => if kv.1 = k then (kv.1, v) else kv) else kvs ++ [(k, v)]
inductive KR (C : Fx) (F : Hp) : List (Key × V) → List (Key × PV) → Prop
  | nil : KR C F [] []
  | cons {k : Key} {v : V} {p : PV} {r : List (Key × V)} {l : List (Key × PV)} : Rp C F v p → KR C F r l → KR C F ((k, v) :: r) ((k, p) :: l)
section
variable {C : Fx} {F F' : Hp}
theorem KR.of : ∀ {r : List (Key × V)} {l : List (Key × PV)}, r.map (·.1) = l.map (·.1) → Rps C F (r.map (·.2)) (l.map (·.2)) → KR C F r l
  | [], [], _, _ => .nil
  | [], _ :: _, e, _ => by cases e
  | _ :: _, [], e, _ => by cases e
  | (k, v) :: r, (k2, p) :: l, e, h => by
    have e : k :: r.map (·.1) = k2 :: l.map (·.1) := e
    obtain ⟨e1, e2⟩ := List.cons.inj e
    subst e1
    cases h with
    | cons a b => exact .cons a (KR.of e2 b)
theorem KR.zip : ∀ {r : List (Key × V)} {vs : List PV}, Rps C F (r.map (·.2)) vs → KR C F r ((r.map (·.1)).zip vs)
  | [], _, h => by
    cases h
    exact .nil
  | (k, v) :: r, _, h => by
    cases h with
    | cons a b => exact .cons a (KR.zip b)
theorem KR.length {r : List (Key × V)} {l : List (Key × PV)} (h : KR C F r l) : r.length = l.length := by
  induction h with
  | nil => rfl
  | cons _ _ ih => rw [List.length_cons, List.length_cons, ih]
theorem KR.mono (sm : Same F F') {r : List (Key × V)} {l : List (Key × PV)} (h : KR C F r l) : KR C F' r l := by
  induction h with
  | nil => exact .nil
  | cons a _ ih => exact .cons (a.mono sm) ih
theorem KR.val {r : List (Key × V)} {l : List (Key × PV)} (h : KR C F r l) (k : Key) : (valV r k = none ∧ valP l k = none) ∨ ∃ v p, valV r k = some v ∧ valP l k = some p ∧ Rp C F v p := by
  induction h with
  | nil => exact .inl ⟨rfl, rfl⟩
  | @cons k2 v p r l a _ ih =>
    by_cases e : k2 = k
    · exact .inr ⟨v, p, by simp [valV, e], by simp [valP, e], a⟩
    · simpa [valV, valP, e] using ih
theorem KR.any {r : List (Key × V)} {l : List (Key × PV)} (h : KR C F r l) (k : Key) : (r.any fun kv => decide (kv.1 = k)) = l.any fun kv => decide (kv.1 = k) := by
  induction h with
  | nil => rfl
  | cons _ _ ih => rw [List.any_cons, List.any_cons, ih]
theorem KR.putM (k : Key) {v : V} {p : PV} (a : Rp C F v p) {r : List (Key × V)} {l : List (Key × PV)} (h : KR C F r l) : KR C F (r.map fun kv => if kv.1 = k then (kv.1, v) else kv) (l.map fun kv => if kv.1 = k then (kv.1, p) else kv) := by
  induction h with
  | nil => exact .nil
  | @cons k2 v2 p2 r l b _ ih =>
    rw [List.map_cons, List.map_cons]
    by_cases e : k2 = k
    · simp only [e, if_true]
      exact .cons a ih
    · simp only [e, if_false]
      exact .cons b ih
theorem KR.putA (k : Key) {v : V} {p : PV} (a : Rp C F v p) {r : List (Key × V)} {l : List (Key × PV)} (h : KR C F r l) : KR C F (r ++ [(k, v)]) (l ++ [(k, p)]) := by
  induction h with
  | nil => exact .cons a .nil
  | cons b _ ih => exact .cons b ih
theorem KR.put {r : List (Key × V)} {l : List (Key × PV)} (h : KR C F r l) (k : Key) {v : V} {p : PV} (a : Rp C F v p) : KR C F (putK r k v) (putKP l k p) := by
  unfold putK putKP
  rw [h.any k]
  split
  · exact h.putM k a
  · exact h.putA k a
end
/-! ### the rules -/
end PL
/-! PLT: the law's own end. -/
namespace PL
open PySem PySem.Spec PyProof.Rows L2
/-- the script as the law meets it -/
def scrOf (ns : List Int) : PV := .scr (ns.map PV.int)
theorem law_sp {K : PySem.W.Frag} {cl : Str → Addr} {m : List SV → List MO → FRes} (hm : ∀ ns : List Int, ns.length ≤ 63 → m [.val (scrOf ns)] [] = .ok (.bl true) []) {H : Hp} {a : Addr} {ns : List Int} (hl : ns.length ≤ 63) (hS : SqL K H a (ns.map V.int)) (hT : TabOk cl H H := by first | exact tabOk_0 | exact tabOk_nil) :
    spOf K cl 1 m [.ref a] H (fun v _ => v = .bl true) fun _ _ _ => False := by
  refine ⟨rfl, ⟨K, cl, 0, fun _ => 0, fun _ => [], 0, fun _ => none⟩, H, [.val (scrOf ns)], [], rfl, rfl, ?_, .val (.scr hS (Rps.of_ints ns)) .nil, ?_⟩
  · exact ⟨rfl, fun _ _ h => h, fun i v e => by simp at e, fun i m e => by simp at e, rfl, fun i k e => by simp at e, fun k m e => by simp at e, fun i b h => absurd h (by simp [noA]), fun _ _ _ h _ => absurd h (by simp [noA]), fun k b h _ => absurd h (Nat.not_lt_zero k), fun k j b h _ _ _ => absurd h (Nat.not_lt_zero k), ⟨(fun _ _ h => nomatch h), hT⟩⟩
  · rw [hm ns hl]
    intro u F' H' o st r
    cases r
    rfl
theorem no_cx {P : Program} {w : World} {H : Hp} {s : Shared} {e : Value} {s' : Shared} (h : L2N.CX P w [] H s (fun _ _ _ => False) e s') : False := by
  obtain ⟨_, _, _, _, _, _, _, _, _, _, _, _, z⟩ := h
  exact z
end PL
/-! PLL: lambdas: their making, what the state knows then. -/
namespace PL
open PySem PySem.Spec PyProof.Rows L2 LamX
/-- the words of a lambda -/
structure LF where
  qual : Str
  params : Arguments
  body : Expr
  scope : Scope
  cl : List (Str × Addr)
  c : Addr
/-- the object at f is the lambda F -/
def LamO (f : Addr) (F : LF) : HO := .ext fun h => ∃ (pm ctv : Value), h.get? f = some (PySem.W.kla_obj "<lambda>" F.qual F.params F.body F.scope F.cl pm F.c ctv)
section
variable {X : Cx} {pins : List (Addr × Obj)} {σ : L2.St} {H : Hp} {s : Shared}
/-- what a lambda's making did: its code object is new, or the table told it -/
inductive Made (H : Hp) (P : Addr) (ps : Array Value) (pos : Pos) (mk : Addr → LF) (f c' : Addr) : Hp → Prop
  | new : H c' = none → c' ≠ f → Made H P ps pos mk f c' (L2.upd (L2.upd (L2.upd H P (.tbl (ps ++ #[rawInt pos.line, rawInt pos.col, .ref c']))) c' (CodeO c' (mk c').qual)) f (LamO f (mk c')))
  | hit : codeAmong pos ps.toList = some (.ref c') → Made H P ps pos mk f c' (L2.upd H f (LamO f (mk c')))
end
end PL
/-! PLL2: functions that are handed to defs. -/
namespace PL
open PySem PySem.Spec PyProof.Rows L2 LamX
mutual
/-- no function within -/
def noFn : PV → Bool
  | .fnp => false
  | .tup l => noFns l
  | .lst l => noFns l
  | .scr l => noFns l
  | .ins _ fs => noFnf fs
  | .exi _ v => noFn v
  | .dcv _ vs => noFns vs
  | _ => true
def noFns : List PV → Bool
  | [] => true
  | p :: r => noFn p && noFns r
def noFnf : List (Str × PV) → Bool
  | [] => true
  | p :: r => noFn p.2 && noFnf r
end
mutual
theorem Rp.sw {C D : Fx} {F : Hp} (hk : D.K = C.K) (hc : D.cl = C.cl) : ∀ {v : V} {p : PV}, Rp C F v p → noFn p = true → Rp D F v p
  | _, _, .non, _ => .non
  | _, _, .bl b, _ => .bl b
  | _, _, .int i, _ => .int i
  | _, _, .str x, _ => .str x
  | _, _, .tup (l := l) h r, n => .tup (by rw [hk]; exact h) (Rps.sw hk hc r (show noFns l = true from n))
  | _, _, .lst (l := l) h r, n => .lst h (Rps.sw hk hc r (show noFns l = true from n))
  | _, _, .scr (l := l) h r, n => .scr (by rw [hk]; exact h) (Rps.sw hk hc r (show noFns l = true from n))
  | _, _, .ins (l := l) h r, n => .ins (by rw [hc]; exact h) (Rpf.sw hk hc r (show noFnf l = true from n))
  | _, _, .fnp, n => by cases n
  | _, _, .exi (p := p) h k r, n => .exi (by rw [hc]; exact h) k (Rp.sw hk hc r (show noFn p = true from n))
  | _, _, .dcv (vs := vs) h k r, n => .dcv h k (Rps.sw hk hc r (show noFns vs = true from n))
theorem Rps.sw {C D : Fx} {F : Hp} (hk : D.K = C.K) (hc : D.cl = C.cl) : ∀ {v : List V} {p : List PV}, Rps C F v p → noFns p = true → Rps D F v p
  | _, _, .nil, _ => .nil
  | _, p :: r, .cons h t, n => by
    have n : (noFn p && noFns r) = true := n
    rw [Bool.and_eq_true] at n
    exact .cons (Rp.sw hk hc h n.1) (Rps.sw hk hc t n.2)
theorem Rpf.sw {C D : Fx} {F : Hp} (hk : D.K = C.K) (hc : D.cl = C.cl) : ∀ {v : List (Str × V)} {p : List (Str × PV)}, Rpf C F v p → noFnf p = true → Rpf D F v p
  | _, _, .nil, _ => .nil
  | _, (_, p) :: r, .cons h t, n => by
    have n : (noFn p && noFnf r) = true := n
    rw [Bool.and_eq_true] at n
    exact .cons (Rp.sw hk hc h n.1) (Rpf.sw hk hc t n.2)
end
/-- the context of a def that nothing is lent to -/
def bare (C : Fx) (fa : Addr) (F0 : Hp) : Fx := ⟨C.K, C.cl, 0, fun _ => 0, fun _ => [], fa, F0⟩
section
variable {C : Fx} {F H F' H' F0 : Hp} {A : Nat → List Addr} {σ : L2.St} {s : Stt} {fa : Addr}
theorem OkF.bare (o : OkF C F A H σ s) (h0 : Same F0 F) : OkF (PL.bare C fa F0) F noA H [] ⟨[], []⟩ :=
  ⟨rfl, o.sub, fun i v e => by simp at e, fun i m e => by simp at e, rfl, fun i k e => by simp at e, fun k m e => by simp at e, fun i b h => absurd h (by simp [noA]), fun _ _ _ h _ => absurd h (by simp [noA]), fun k b hk _ => absurd hk (Nat.not_lt_zero k), fun k j b h _ _ _ => absurd h (Nat.not_lt_zero k), ⟨h0, o.ext.2⟩⟩
theorem OkF.unbare (o : OkF C F A H σ s) (o' : OkF (PL.bare C fa F0) F' noA H' [] ⟨[], []⟩) (st : Step (PL.bare C fa F0) F noA H F' noA H') : OkF C F' A H' σ s ∧ Step C F A H F' A H' := by
  have nofr : ∀ {b : Addr}, ¬ OwnA noA b := fun {b} ⟨i, h⟩ => absurd h (by simp [noA])
  have nobr : ∀ {b : Addr}, ¬ Bor (PL.bare C fa F0) b := fun {b} ⟨k, h, _⟩ => absurd h (Nat.not_lt_zero k)
  have keep : ∀ b x, H b = some x → (∀ ps, x ≠ .tbl ps) → H' b = some x := fun b x hb nt => st.s4 b x hb nt nofr nobr
  have keepN : ∀ b, F b = none → H b ≠ none → F' b = none := fun b h1 h2 => by
    cases e : F' b with
    | none => rfl
    | some x =>
      rcases st.s2 b (by rw [e]; simp) with z | z | z
      · exact absurd h1 z
      · exact absurd z h2
      · exact absurd z nofr
  refine ⟨⟨o.len, o'.sub, fun i v e => ?_, fun i m e => ?_, o.nb, o.lent, fun k m e => (o.bor k m e).keepT st.s1 fun b x _ t h => keep b x h (Tbx.tbl t), fun i b hb => ?_, o.dis, fun k b hk hb => ?_, o.disB, ⟨o.ext.1.trans st.s1, o'.ext.2⟩⟩,
    ⟨st.s1, fun b hb => ?_, fun b hb => .inl hb, fun b x hx nt _ _ => keep b x hx nt, st.s5⟩⟩
  · obtain ⟨u, h1, h2⟩ := o.val i v e
    exact ⟨u, h1, h2.mono st.s1⟩
  · obtain ⟨p, h1, h2⟩ := o.own i m e
    exact ⟨p, h1, h2.keepT st.s1 fun b x _ t h => keep b x h (Tbx.tbl t)⟩
  · obtain ⟨h1, h2⟩ := o.free i b hb
    exact ⟨keepN b h1 h2, st.s5 b h2⟩
  · have hm : k < s.mu.length := by rw [o.nb]; exact hk
    have ht := (o.bor k s.mu[k] (List.getElem?_eq_getElem hm)).there b hb
    exact ⟨keepN b (o.freeB k b hk hb).1 ht, (o.freeB k b hk hb).2⟩
  · rcases st.s2 b hb with z | z | z
    · exact .inl z
    · exact .inr (.inl z)
    · exact absurd z nofr
end
section
variable (P : Program) (w : World) (K : PySem.W.Frag) (mg : Str → Option Value) (base : Heap) (cl : Str → Addr)
/-- what is known of the function at fa: sem tells its calls, where T holds (T speaks of the cells cs) and the plain things F0 stand -/
structure FunP (kf : Nat) (fa : Addr) (sem : List PV → Option PV) (F0 : Hp) (cs : List Addr) (T : Heap → Hp → Prop) : Prop where
  stab : ∀ fs H H' h h', (∀ c ∈ cs, c ∉ fs) → Un fs [] H H' h h' → T h H → T h' H'
  lt : ∀ h H, T h H → ∀ c ∈ cs, c < h.objs.size
  obj : ∃ L : LF, F0 fa = some (LamO fa L)
  call : ∀ (A : Around) (outer : List Env) (s : Shared) (H : Hp) (D : Fx) (F : Hp) (us : List Value) (vs : List V) (ps : List PV) (z : PV) (Q : VK) (E : XK), Room kf A → A.guards = some [] → Env0 P w K mg base A outer s H → T s.heap H → (∀ c ∈ cs, c ∉ frs outer) → Same F0 F →
    D.K = K → D.cl = cl → OkF D F noA H [] ⟨[], []⟩ → Vals vs us → Rps D F vs ps → noFns ps = true → sem ps = some z →
    (∀ u F' H', OkF D F' noA H' [] ⟨[], []⟩ → Step D F noA H F' noA H' → Rp D F' u z → Q u H') → codeAny (model P w) A (.call (.ref fa) ⟨us, []⟩) (CR (L2N.CX P w) outer P w H s Q E) s
end
section
variable {P : Program} {w : World} {K : PySem.W.Frag} {mg : Str → Option Value} {base : Heap} {cl : Str → Addr}
theorem FunP.mono {j k : Nat} {fa : Addr} {sem : List PV → Option PV} {F0 : Hp} {cs : List Addr} {T : Heap → Hp → Prop} (h : FunP P w K mg base cl j fa sem F0 cs T) (hj : j ≤ k) : FunP P w K mg base cl k fa sem F0 cs T :=
  ⟨h.stab, h.lt, h.obj, fun A outer s H D F us vs ps z Q E hr => h.call A outer s H D F us vs ps z Q E (hr.mono hj)⟩
/-- the code object of the function at f -/
def CodeIs (K : PySem.W.Frag) (f : Addr) (cv : Value) : Prop := ∃ (oc : Value) (od : Option Addr) (fd : FuncData) (osl : Array (Option Value)), K.lookup f = some (⟨oc, od, .func fd, osl⟩ : Obj) ∧ fd.code = cv
theorem CodeIs.uniq {f : Addr} {a b : Value} (h : CodeIs K f a) (h' : CodeIs K f b) : a = b := by
  obtain ⟨_, _, _, _, e1, e2⟩ := h
  obtain ⟨_, _, _, _, e3, e4⟩ := h'
  rw [e1] at e3
  cases e3
  exact e2.symm.trans e4
end
end PL
/-! PLL3: a lambda is handed to a def. -/
namespace PL
open PySem PySem.Spec PyProof.Rows L2 LamX
/-! ### the call -/
end PL
/-! PLL4: the law's own end where the program makes lambdas. -/
namespace PL
open PySem PySem.Spec PyProof.Rows L2 LamX
end PL
/-! PLM: laws about the mirrors' words: loops, comprehensions, data shown and compared. -/
namespace PL
open PySem PySem.Spec PyProof.Rows L2
/-! ### loops -/
theorem forL_nil (a : PV → Stt → Option Stt) (b : Stt → Fl) (s : Stt) : forL a b [] s = .nx s := rfl
/-- a loop that comes to its end: I by the turn -/
theorem forL_inv {a : PV → Stt → Option Stt} {b : Stt → Fl} (I : Nat → Stt → Prop) : ∀ (l : List PV) (k : Nat) (s : Stt), I k s →
    (∀ i p s, l[i]? = some p → I (k + i) s → ∃ s1, a p s = some s1 ∧ ∃ s2, (b s1 = .nx s2 ∨ b s1 = .ct s2) ∧ I (k + i + 1) s2) → ∃ s2, forL a b l s = .nx s2 ∧ I (k + l.length) s2
  | [], k, s, h0, _ => ⟨s, rfl, h0⟩
  | p :: r, k, s, h0, h => by
    obtain ⟨s1, e1, s2, e2, h2⟩ := h 0 p s rfl h0
    have ih := forL_inv I r (k + 1) s2 h2 fun i q s' hq hI => by
      obtain ⟨t1, g1, t2, g2, g3⟩ := h (i + 1) q s' (by simpa using hq) (by rw [show k + (i + 1) = k + 1 + i by omega]; exact hI)
      exact ⟨t1, g1, t2, g2, by rw [show k + 1 + i + 1 = k + (i + 1) + 1 by omega]; exact g3⟩
    obtain ⟨s3, e3, h3⟩ := ih
    refine ⟨s3, ?_, by rw [List.length_cons, show k + (r.length + 1) = k + 1 + r.length by omega]; exact h3⟩
    rw [forL_cons _ _ _ _ _ _ e1]
    rcases e2 with e2 | e2 <;> rw [e2] <;> exact e3
/-- the same without turns -/
theorem forL_all {a : PV → Stt → Option Stt} {b : Stt → Fl} (I : Stt → Prop) {l : List PV} {s : Stt} (h0 : I s)
    (h : ∀ p s, p ∈ l → I s → ∃ s1, a p s = some s1 ∧ ∃ s2, (b s1 = .nx s2 ∨ b s1 = .ct s2) ∧ I s2) : ∃ s2, forL a b l s = .nx s2 ∧ I s2 :=
  forL_inv (fun _ => I) l 0 s h0 fun i p s hp hI => h p s (List.mem_of_getElem? hp) hI
/-- a comprehension whose parts leave the state as it is -/
theorem compL_map {vs : List Nat} {a : PV → Stt → Option Stt} {ft : Stt → Res Bool} {fe : Stt → Res PV} {s : Stt} (f : PV → Option PV) : ∀ (l acc : List PV), acc.length + l.length ≤ 16777216 →
    (∀ p ∈ l, ∃ s1, a p s = some s1 ∧ ((∃ s2 y s3, ft s1 = .ok true s2 ∧ fe s2 = .ok y s3 ∧ wipeS vs s3 = s ∧ f p = some y) ∨ ∃ s2, ft s1 = .ok false s2 ∧ wipeS vs s2 = s ∧ f p = none)) →
    compL vs a ft fe l acc s = .ok (acc ++ l.filterMap f) s
  | [], acc, _, _ => by simp [compL]
  | p :: r, acc, hl, h => by
    rw [List.length_cons] at hl
    obtain ⟨s1, e1, e2⟩ := h p List.mem_cons_self
    rw [compL_cons _ _ _ _ _ _ _ _ _ e1]
    rcases e2 with ⟨s2, y, s3, e2, e3, e4, e5⟩ | ⟨s2, e2, e4, e5⟩
    · rw [e2]
      simp only [Res.bind_ok, if_true, e3]
      rw [if_pos (by omega), e4, compL_map f r (acc ++ [y]) (by rw [List.length_append, List.length_singleton]; omega) fun q hq => h q (List.mem_cons_of_mem _ hq)]
      rw [List.filterMap_cons, e5]
      simp
    · rw [e2]
      simp only [Res.bind_ok, Bool.false_eq_true, if_false]
      rw [e4, compL_map f r acc (by omega) fun q hq => h q (List.mem_cons_of_mem _ hq)]
      rw [List.filterMap_cons, e5]
/-! ### data shown and compared -/
theorem join_len_le (n : Nat) : ∀ ts : List Str, (∀ t ∈ ts, t.length ≤ n) → (Str.join ", " ts).length ≤ ts.length * (n + 2)
  | [], _ => by simp [Str.join]; decide
  | [x], h => by
    have := h x List.mem_cons_self
    show x.length ≤ 1 * (n + 2)
    omega
  | x :: y :: r, h => by
    have ih := join_len_le n (y :: r) fun t ht => h t (List.mem_cons_of_mem _ ht)
    have hx := h x List.mem_cons_self
    show (x ++ (", " : Str) ++ Str.join ", " (y :: r)).length ≤ _
    have e2 : ((", " : String) : Str).length = 2 := by decide
    rw [PySem.Str.length_append, PySem.Str.length_append, e2]
    simp only [List.length_cons] at ih ⊢
    have : (r.length + 1 + 1) * (n + 2) = (r.length + 1) * (n + 2) + (n + 2) := by rw [Nat.add_mul (r.length + 1) 1, Nat.one_mul]
    omega
theorem tupleText_le (n : Nat) (ts : List Str) (h : ∀ t ∈ ts, t.length ≤ n) : (tupleText ts).length ≤ ts.length * (n + 2) + 3 := by
  unfold tupleText
  rw [PySem.Str.length_append, PySem.Str.length_append]
  have e1 : ((("(" : String) : Str)).length = 1 := by decide
  have e2 : ((if ts.length == 1 then ",)" else ")" : String) : Str).length ≤ 2 := by split <;> decide
  have := join_len_le n ts h
  omega
theorem listText_le (n : Nat) (ts : List Str) (h : ∀ t ∈ ts, t.length ≤ n) : (listText ts).length ≤ ts.length * (n + 2) + 3 := by
  rw [show listText ts = (("[" : String) : Str) ++ Str.join ", " ts ++ (("]" : String) : Str) from listText_eq_join ts]
  rw [PySem.Str.length_append, PySem.Str.length_append]
  have e1 : ((("[" : String) : Str)).length = 1 := by decide
  have e2 : ((("]" : String) : Str)).length = 1 := by decide
  have := join_len_le n ts h
  omega
abbrev SO (x : Str) : Prop := PyData.strOk x = true
theorem so_of (s : String) : SO (Str.ofString s) := by
  show PyData.strOk _ = true
  rw [Str.ofString_eq_toList]
  unfold PyData.strOk
  simp only [List.all_toArray, List.all_map, List.all_eq_true]
  intro c _
  have := c.valid
  have h2 : c.toNat < 1114112 := by
    have h3 : c.val.toNat < 0xd800 ∨ 0xdfff < c.val.toNat ∧ c.val.toNat < 0x110000 := c.valid
    show c.val.toNat < 1114112
    omega
  simpa using h2
theorem so_app {x y : Str} (hx : SO x) (hy : SO y) : SO (x ++ y) := by
  unfold SO PyData.strOk at *
  show ((x.cps ++ y.cps).all _) = true
  rw [Array.all_append, hx, hy]
  rfl
theorem so_join {sep : Str} (h0 : SO sep) : ∀ {ts : List Str}, (∀ t ∈ ts, SO t) → SO (Str.join sep ts)
  | [], _ => so_of ""
  | [x], h => h x List.mem_cons_self
  | x :: y :: r, h => so_app (so_app (h x List.mem_cons_self) h0) (so_join h0 fun t ht => h t (List.mem_cons_of_mem _ ht))
theorem so_list {ts : List Str} (h : ∀ t ∈ ts, SO t) : SO (listText ts) := by
  rw [show listText ts = (("[" : String) : Str) ++ Str.join ", " ts ++ (("]" : String) : Str) from listText_eq_join ts]
  exact so_app (so_app (so_of "[") (so_join (so_of ", ") h)) (so_of "]")
theorem so_tuple {ts : List Str} (h : ∀ t ∈ ts, SO t) : SO (tupleText ts) := by
  unfold tupleText
  exact so_app (so_app (so_of "(") (so_join (so_of ", ") h)) (so_of _)
/-- p is data: shown in at most n signs, nested at most k deep -/
structure Rk (p : PV) (n k : Nat) : Prop where
  ex : ∃ d, toD p = some d ∧ d.showable = true ∧ d.hasDict = false ∧ d.canLay0 = true ∧ d.shown.length ≤ n ∧ d.depth ≤ k ∧ SO d.shown
structure Rks (l : List PV) (n k : Nat) : Prop where
  ex : ∃ ds, toDs l = some ds ∧ PyData.showableAll ds = true ∧ PyData.hasDictAll ds = false ∧ PyData.canLayAll0 ds = true ∧ (∀ t ∈ PyData.shownAll ds, t.length ≤ n) ∧ PyData.depthAll ds ≤ k ∧ ds.length = l.length ∧ ∀ t ∈ PyData.shownAll ds, SO t
theorem Rk.mono {p : PV} {n k n' k' : Nat} (h : Rk p n k) (hn : n ≤ n') (hk : k ≤ k') : Rk p n' k' := by
  obtain ⟨d, h1, h2, h3, h4, h5, h6, h7⟩ := h.ex
  exact ⟨d, h1, h2, h3, h4, Nat.le_trans h5 hn, Nat.le_trans h6 hk, h7⟩
theorem Rks.of {n k : Nat} : ∀ {l : List PV}, (∀ p ∈ l, Rk p n k) → Rks l n k
  | [], _ => ⟨[], rfl, by simp [PyData.showableAll], by simp [PyData.hasDictAll], by simp [PyData.canLayAll0], by simp [PyData.shownAll], by simp [PyData.depthAll], rfl, by simp [PyData.shownAll]⟩
  | p :: r, h => by
    obtain ⟨d, h1, h2, h3, h4, h5, h6, h7⟩ := (h p List.mem_cons_self).ex
    obtain ⟨ds, g1, g2, g3, g4, g5, g6, g7, g8⟩ := (Rks.of (l := r) fun q hq => h q (List.mem_cons_of_mem _ hq)).ex
    refine ⟨d :: ds, ?_, ?_, ?_, ?_, ?_, ?_, by simp [g7], ?_⟩
    · unfold toDs; rw [h1, g1]
    · rw [PyData.showableAll, h2, g2]; rfl
    · rw [PyData.hasDictAll, h3, g3]; rfl
    · rw [PyData.canLayAll0, h4, g4]; rfl
    · rw [PyData.shownAll]
      intro t ht
      rcases List.mem_cons.mp ht with e | e
      · rw [e]; exact h5
      · exact g5 t e
    · rw [PyData.depthAll]
      omega
    · rw [PyData.shownAll]
      intro t ht
      rcases List.mem_cons.mp ht with e | e
      · rw [e]; exact h7
      · exact g8 t e
theorem shownAll_length : ∀ ds : List PyData, (PyData.shownAll ds).length = ds.length
  | [] => by simp [PyData.shownAll]
  | d :: r => by rw [PyData.shownAll, List.length_cons, List.length_cons, shownAll_length r]
theorem Rk.non : Rk .non 4 0 := ⟨.none, rfl, by simp [PyData.showable], by simp [PyData.hasDict], by simp [PyData.canLay0], by simp [PyData.shown]; decide, by simp [PyData.depth], by simp only [PyData.shown]; exact so_of _⟩
theorem Rk.bl (b : Bool) : Rk (.bl b) 5 0 := ⟨.bool b, rfl, by simp [PyData.showable], by simp [PyData.hasDict], by simp [PyData.canLay0], by cases b <;> simp [PyData.shown] <;> decide, by simp [PyData.depth], by cases b <;> simp only [PyData.shown] <;> exact so_of _⟩
theorem Rk.int {i : Int} (h : i.natAbs.log2 < 1920) : Rk (.int i) 1921 0 := by
  refine ⟨.int i, rfl, by simpa [PyData.showable] using h, by simp [PyData.hasDict], by simp [PyData.canLay0], ?_, by simp [PyData.depth], by simp only [PyData.shown]; exact so_of _⟩
  have := int_text_length_le (a := i) (k := 1920) (by decide) h
  simp only [PyData.shown]
  rw [PySem.ofString_length]
  exact this
theorem Rk.lst {l : List PV} {n k : Nat} (h : ∀ p ∈ l, Rk p n k) : Rk (.lst l) (l.length * (n + 2) + 3) (k + 1) := by
  obtain ⟨ds, g1, g2, g3, g4, g5, g6, g7, g8⟩ := (Rks.of h).ex
  refine ⟨.list ds, by show (toDs l).map _ = _; rw [g1]; rfl, by rw [PyData.showable]; exact g2, by rw [PyData.hasDict]; exact g3, by rw [PyData.canLay0]; exact g4, ?_, by rw [PyData.depth]; omega, by rw [PyData.shown]; exact so_list g8⟩
  rw [PyData.shown]
  have := listText_le n _ g5
  rw [shownAll_length, g7] at this
  exact this
theorem Rk.tup {l : List PV} {n k : Nat} (h : ∀ p ∈ l, Rk p n k) : Rk (.tup l) (l.length * (n + 2) + 3) (k + 1) := by
  obtain ⟨ds, g1, g2, g3, g4, g5, g6, g7, g8⟩ := (Rks.of h).ex
  refine ⟨.tuple ds, by show (toDs l).map _ = _; rw [g1]; rfl, by rw [PyData.showable]; exact g2, by rw [PyData.hasDict]; exact g3, by rw [PyData.canLay0]; exact g4, ?_, by rw [PyData.depth]; omega, by rw [PyData.shown]; exact so_tuple g8⟩
  rw [PyData.shown]
  have := tupleText_le n _ g5
  rw [shownAll_length, g7] at this
  exact this
theorem Rk.shaped {p : PV} {n k : Nat} (h : Rk p n k) (hk : k ≤ 64) : ∃ d, toD p = some d ∧ SeqAt.shaped d = true ∧ d.canLay0 = true := by
  obtain ⟨d, h1, h2, h3, h4, h5, h6, h7⟩ := h.ex
  refine ⟨d, h1, ?_, h4⟩
  unfold SeqAt.shaped
  rw [h4, decide_eq_true (Nat.le_trans h6 hk)]
  rfl
/-! lists of numbers -/
theorem eqB_int (a b : Int) : pEqB (.int a) (.int b) = some (a == b) := by
  simp [pEqB, toD, SeqAt.shaped, PyData.canLay0, PyData.depth, PyData.eqv]
end PL
/-! PM: the mirrors of the program's defs (printed by gen.py). -/
namespace PM
open PySem PySem.Spec PyProof.Rows L2 PL
noncomputable def g__law_draw : Stt → Fl :=
  (gSeq (gIf (tOf (eBin pGt (eIxM 0 (eC (.int 0))) (eC (.int 0))))
  (gSeq (gAsg (eBin pMod (eIxM 0 (eC (.int 0))) (eVar 1)) (aName 2))
  (gSeq (gSetIx 0 (eBin pFdiv (eIxM 0 (eC (.int 0))) (eVar 1)) (eC (.int 0)))
  (gSeq (gRet (eVar 2))
  gNop)))
  gNop)
  (gSeq (gSetIx 0 (eBin pAdd (eIxM 0 (eC (.int 2))) (eC (.int 1))) (eC (.int 2)))
  (gSeq (gAsg (eBin pMod (eBin pPow (eBin pAdd (eIxM 0 (eC (.int 1))) (eBin pMul (eC (.int 179424673)) (eIxM 0 (eC (.int 2))))) (eC (.int 3))) (eC (.int 162259276829213363391578010288127))) (aName 3))
  (gSeq (gAsg (eBin pMod (eBin pPow (eBin pAdd (eVar 3) (eBin pMul (eC (.int 86028157)) (eIxM 0 (eC (.int 2))))) (eC (.int 3))) (eC (.int 170141183460469231731687303715884105727))) (aName 3))
  (gSeq (gRet (eBin pMod (eBin pFdiv (eVar 3) (eC (.int 2097152))) (eVar 1)))
  gNop)))))
noncomputable def m__law_draw : List SV → List MO → FRes := mOf 4 g__law_draw
noncomputable def g_is_guard : Stt → Fl :=
  (gSeq (gAsg (eVar 0) (aTup 4 (asCons (aName 1) (asCons (aName 2) (asCons (aName 3) (asCons (aName 4) asNil))))))
  (gSeq (gRet (eAn (eChain pLe pLe (eC (.int 0)) (eVar 1) (eVar 2)) (eChain pLe pLt (eC (.int 0)) (eVar 4) (eVar 3))))
  gNop))
noncomputable def m_is_guard : List SV → List MO → FRes := mOf 5 g_is_guard
noncomputable def g_first_of : Stt → Fl :=
  (gSeq (gAsg (eVar 0) (aTup 4 (asCons (aName 1) (asCons (aName 2) (asCons (aName 3) (asCons (aName 4) asNil))))))
  (gSeq (gRet (eBin pAdd (eVar 1) (eBin pMod (eBin pSub (eVar 4) (eVar 1)) (eVar 3))))
  gNop))
noncomputable def m_first_of : List SV → List MO → FRes := mOf 5 g_first_of
noncomputable def g_lanes_of : Stt → Fl :=
  (gSeq (gRet (eCallB pMax2 (aCons (eC (.int 0)) (aCons (eBin pFdiv (eBin pSub (eBin pAdd (eBin pSub (eBin pIx (eVar 0) (eC (.int 1))) (eCall PM.m_first_of (avN 1 (lPv (eVar 0) lNil)))) (eBin pIx (eVar 0) (eC (.int 2)))) (eC (.int 1))) (eBin pIx (eVar 0) (eC (.int 2)))) aNil))))
  gNop)
noncomputable def m_lanes_of : List SV → List MO → FRes := mOf 1 g_lanes_of
noncomputable def g_has : Stt → Fl :=
  (gSeq (gAsg (eVar 0) (aTup 4 (asCons (aName 2) (asCons (aName 3) (asCons (aName 4) (asCons (aName 5) asNil))))))
  (gSeq (gRet (eAn (eChain pLe pLt (eVar 2) (eVar 1) (eVar 3)) (eBin pEq (eBin pMod (eVar 1) (eVar 4)) (eVar 5))))
  gNop))
noncomputable def m_has : List SV → List MO → FRes := mOf 6 g_has
noncomputable def g_bezout : Stt → Fl :=
  (gSeq (gAsg (eTup (aCons (eVar 0) (aCons (eVar 1) (aCons (eC (.int 1)) (aCons (eC (.int 0)) aNil))))) (aTup 4 (asCons (aName 2) (asCons (aName 3) (asCons (aName 4) (asCons (aName 5) asNil))))))
  (gSeq (gWhile (tOf (eBin pNe (eVar 3) (eC (.int 0))))
  (gSeq (gAsg (eBin pFdiv (eVar 2) (eVar 3)) (aName 6))
  (gSeq (gPar 2 3 (aCons (eVar 3) (aCons (eBin pSub (eVar 2) (eBin pMul (eVar 6) (eVar 3))) aNil)))
  (gSeq (gPar 4 5 (aCons (eVar 5) (aCons (eBin pSub (eVar 4) (eBin pMul (eVar 6) (eVar 5))) aNil)))
  gNop))))
  (gSeq (gRet (eIf (tOf (eBin pGe (eVar 2) (eC (.int 0)))) (eTup (aCons (eVar 2) (aCons (eVar 4) aNil))) (eTup (aCons (eUn pNeg (eVar 2)) (aCons (eUn pNeg (eVar 4)) aNil)))))
  gNop)))
noncomputable def m_bezout : List SV → List MO → FRes := mOf 7 g_bezout
noncomputable def g_meeting : Stt → Fl :=
  (gSeq (gAsg (eCall PM.m_bezout (avN 2 (lPv (eBin pIx (eVar 0) (eC (.int 2))) (lPv (eBin pIx (eVar 1) (eC (.int 2))) lNil)))) (aTup 2 (asCons (aName 2) (asCons (aName 3) asNil))))
  (gSeq (gAsg (eBin pSub (eBin pIx (eVar 1) (eC (.int 3))) (eBin pIx (eVar 0) (eC (.int 3)))) (aName 4))
  (gSeq (gIf (tOf (eBin pNe (eBin pMod (eVar 4) (eVar 2)) (eC (.int 0))))
  (gSeq (gRet (eC .non))
  gNop)
  gNop)
  (gSeq (gAsg (eBin pMul (eBin pFdiv (eBin pIx (eVar 0) (eC (.int 2))) (eVar 2)) (eBin pIx (eVar 1) (eC (.int 2)))) (aName 5))
  (gSeq (gAsg (eBin pMod (eBin pAdd (eBin pIx (eVar 0) (eC (.int 3))) (eBin pMul (eBin pIx (eVar 0) (eC (.int 2))) (eBin pMul (eBin pFdiv (eVar 4) (eVar 2)) (eVar 3)))) (eVar 5)) (aName 6))
  (gSeq (gAsg (eTup (aCons (eCallB pMax2 (aCons (eBin pIx (eVar 0) (eC (.int 0))) (aCons (eBin pIx (eVar 1) (eC (.int 0))) aNil))) (aCons (eCallB pMin2 (aCons (eBin pIx (eVar 0) (eC (.int 1))) (aCons (eBin pIx (eVar 1) (eC (.int 1))) aNil))) (aCons (eVar 5) (aCons (eVar 6) aNil))))) (aName 7))
  (gSeq (gRet (eIf (tAn (tOf (eBin pLt (eBin pIx (eVar 7) (eC (.int 0))) (eBin pIx (eVar 7) (eC (.int 1))))) (tOf (eBin pGt (eCall PM.m_lanes_of (avN 1 (lPv (eVar 7) lNil))) (eC (.int 0))))) (eVar 7) (eC .non)))
  gNop)))))))
noncomputable def m_meeting : List SV → List MO → FRes := mOf 8 g_meeting
noncomputable def g__law_source : Stt → Fl :=
  (gSeq (gAsg (eTup (aCons (eC (.int 0)) (aCons (eC (.int 7368787)) aNil))) (aTup 2 (asCons (aName 1) (asCons (aName 2) asNil))))
  (gSeq (gFor (iAny (eSl (eVar 0) pNo (pSo (eC (.int 63))))) (aName 3)
  (gSeq (gIf (tOf (eBin pGe (eCallB pAbs (aCons (eVar 3) aNil)) (eBin pPow (eC (.int 10)) (eC (.int 18)))))
  (gSeq (gAsg (eBin pAdd (eBin pMul (eVar 1) (eBin pPow (eC (.int 10)) (eC (.int 60)))) (eBin pMod (eCallB pAbs (aCons (eVar 3) aNil)) (eBin pPow (eC (.int 10)) (eC (.int 60))))) (aName 1))
  gNop)
  gNop)
  (gSeq (gAsg (eBin pMod (eBin pAdd (eBin pAdd (eBin pMul (eVar 2) (eC (.int 6700417))) (eBin pMod (eVar 3) (eC (.int 2305843009213693921)))) (eC (.int 13))) (eC (.int 2305843009213693951))) (aName 2))
  gNop)))
  (gSeq (gRetO (oLst (aCons (eVar 1) (aCons (eVar 2) (aCons (eC (.int 0)) aNil)))))
  gNop)))
noncomputable def m__law_source : List SV → List MO → FRes := mOf 4 g__law_source
noncomputable def g_is_array : Stt → Fl :=
  (gSeq (gRet (eAn (eChain pLe pLe (eC (.int 1)) (eCallB pLen (aCons (eVar 0) aNil)) (eC (.int 8))) (eCallB pAll (aCons (frz (oComp [1] (iTxt (eVar 0)) (aName 1) tYesD (eBin pInSg (eVar 1) (eC (.str "abcdefghijklmnopqrstuvwxyz"))))) aNil))))
  gNop)
noncomputable def m_is_array : List SV → List MO → FRes := mOf 2 g_is_array
noncomputable def g_is_statement : Stt → Fl :=
  (gSeq (gIf (tOf (eBin pNe (eDct [("put", .int 7), ("move", .int 9), ("sum", .int 11)] (eBin pIx (eVar 0) (eC (.int 0)))) (eCallB pLen (aCons (eVar 0) aNil))))
  (gSeq (gRet (eC (.bl false)))
  gNop)
  gNop)
  (gSeq (gIf (tNt (tTru (eCallB pAll (aCons (frz (oComp [2] (iAny (eDct [("put", .tup [.int 2]), ("move", .tup [.int 2, .int 5]), ("sum", .tup [.int 2, .int 5, .int 8])] (eBin pIx (eVar 0) (eC (.int 0))))) (aName 2) tYesD (eCall PM.m_is_array (avN 1 (lPv (eBin pIx (eVar 0) (eVar 2)) lNil))))) aNil))))
  (gSeq (gRet (eC (.bl false)))
  gNop)
  gNop)
  (gSeq (gRet (eAn (eCall PM.m_is_guard (avN 1 (lPv (eBin pIx (eVar 0) (eC (.int 1))) lNil))) (eBin pLe (eBin pIx (eBin pIx (eVar 0) (eC (.int 1))) (eC (.int 1))) (eVar 1))))
  gNop)))
noncomputable def m_is_statement : List SV → List MO → FRes := mOf 3 g_is_statement
noncomputable def g_check_barriers : Stt → Fl :=
  (gSeq (gAsg (eC (.int 0)) (aName 2))
  (gSeq (gFor (iEnumQ (aCons (eVar 0) aNil)) (aTup 2 (asCons (aName 3) (asCons (aName 4) asNil)))
  (gSeq (gIf (tNt (tOf (eChain pLt pLt (eVar 2) (eVar 4) (eVar 1))))
  (gSeq (gRaise "InvalidBarrier" (eVar 3))
  gNop)
  gNop)
  (gSeq (gAsg (eVar 4) (aName 2))
  gNop)))
  gNop))
noncomputable def m_check_barriers : List SV → List MO → FRes := mOf 5 g_check_barriers
noncomputable def g_Kernel___init__ : Stt → Fl :=
  (gSeq (gIf (tOf (eBin pLt (eVar 1) (eC (.int 1))))
  (gSeq (gRaise "InvalidLanes" (eVar 1))
  gNop)
  gNop)
  (gSeq (gFor (iEnumQ (aCons (eVar 2) aNil)) (aTup 2 (asCons (aName 4) (asCons (aName 5) asNil)))
  (gSeq (gIf (tNt (tTru (eCall m_is_statement (avN 2 (lPv (eVar 5) (lPv (eVar 1) lNil))))))
  (gSeq (gRaise "InvalidStatement" (eVar 4))
  gNop)
  gNop)
  gNop))
  (gSeq (gDrop (eCall m_check_barriers (avN 2 (lPv (eVar 3) (lPv (eCallB pLen (aCons (eVar 2) aNil)) lNil)))))
  (gSeq (gSetFld 0 "Kernel" "lane_count" (eVar 1))
  (gSeq (gSetFld 0 "Kernel" "kept_statements" (eTupV (eVar 2)))
  (gSeq (gSetFld 0 "Kernel" "kept_barriers" (eTupV (eVar 3)))
  gNop))))))
noncomputable def m_Kernel___init__ : List SV → List MO → FRes := mOf 6 g_Kernel___init__
noncomputable def g_accesses_in : Stt → Fl :=
  (gSeq (gAsg (eDct [("put", .tup [.int 2]), ("move", .tup [.int 2, .int 5]), ("sum", .tup [.int 2, .int 5, .int 8])] (eBin pIx (eVar 1) (eC (.int 0)))) (aName 2))
  (gSeq (gAsg (frz (oComp [4] (iAny (eSl (eVar 2) (pSo (eC (.int 1))) pNo)) (aName 4) tYesD (eTup (aCons (eVar 0) (aCons (eC (.str "read")) (aStar (eSl (eVar 1) (pSo (eVar 4)) (pSo (eBin pAdd (eVar 4) (eC (.int 3))))) aNil)))))) (aName 3))
  (gSeq (gRet (frz (oLst (aStar (eVar 3) (aCons (eTup (aCons (eVar 0) (aCons (eC (.str "write")) (aStar (eSl (eVar 1) (pSo (eBin pIx (eVar 2) (eC (.int 0)))) (pSo (eBin pAdd (eBin pIx (eVar 2) (eC (.int 0))) (eC (.int 3))))) aNil)))) aNil)))))
  gNop)))
noncomputable def m_accesses_in : List SV → List MO → FRes := mOf 5 g_accesses_in
noncomputable def g_access_list : Stt → Fl :=
  (gSeq (gAsgO 1 (oLst aNil))
  (gSeq (gFor (iEnumQ (aCons (eFld "Kernel" "kept_statements" (eVar 0)) aNil)) (aTup 2 (asCons (aName 2) (asCons (aName 3) asNil)))
  (gSeq (gExt 1 (eCall PM.m_accesses_in (avN 2 (lPv (eVar 2) (lPv (eVar 3) lNil)))))
  gNop))
  (gSeq (gRet (frz (oMv 1)))
  gNop)))
noncomputable def m_access_list : List SV → List MO → FRes := mOf 4 g_access_list
end PM
/-! PN: guards: the plain law. -/
namespace PN
def firstOf (l s r : Int) : Int := l + (r - l) % s
def lanesOf (l h s r : Int) : Int := max 0 ((h - firstOf l s r + s - 1) / s)
theorem first_ge {l s r : Int} (hs : 0 < s) : l ≤ firstOf l s r := by
  unfold firstOf
  have := Int.emod_nonneg (r - l) (show s ≠ 0 by omega)
  omega
theorem first_lt {l s r : Int} (hs : 0 < s) : firstOf l s r < l + s := by
  unfold firstOf
  have := Int.emod_lt_of_pos (r - l) hs
  omega
theorem first_mod {l s r : Int} (hs : 0 < s) (h0 : 0 ≤ r) (h1 : r < s) : firstOf l s r % s = r := by
  unfold firstOf
  have e : (l + (r - l) % s) % s = (l + (r - l)) % s := by rw [Int.add_emod, Int.emod_emod_of_dvd _ (Int.dvd_refl s), ← Int.add_emod]
  rw [e, show l + (r - l) = r by omega]
  exact Int.emod_eq_of_lt h0 h1
theorem lanes_nonneg (l h s r : Int) : 0 ≤ lanesOf l h s r := Int.le_max_left _ _
/-- a number below the count of lanes names a lane below high -/
theorem lanes_lt {l h s r k : Int} (hs : 0 < s) (hk : 0 ≤ k) : k < lanesOf l h s r ↔ firstOf l s r + s * k < h := by
  unfold lanesOf
  have e : (k < max 0 ((h - firstOf l s r + s - 1) / s)) ↔ k < (h - firstOf l s r + s - 1) / s := by
    constructor
    · intro z
      rcases Int.le_total 0 ((h - firstOf l s r + s - 1) / s) with q | q
      · rwa [Int.max_eq_right q] at z
      · rw [Int.max_eq_left q] at z; omega
    · intro z
      exact Int.lt_of_lt_of_le z (Int.le_max_right _ _)
  rw [e]
  have e2 : k < (h - firstOf l s r + s - 1) / s ↔ (k + 1) * s ≤ h - firstOf l s r + s - 1 := by
    rw [← Int.le_ediv_iff_mul_le hs]
    omega
  rw [e2, Int.add_mul, Int.one_mul, Int.mul_comm k s]
  omega
theorem lane_iff {l h s r x : Int} (hs : 0 < s) (h0 : 0 ≤ r) (h1 : r < s) : (l ≤ x ∧ x < h ∧ x % s = r) ↔ ∃ k, 0 ≤ k ∧ k < lanesOf l h s r ∧ x = firstOf l s r + s * k := by
  have fm := first_mod (l := l) hs h0 h1
  constructor
  · rintro ⟨a, b, c⟩
    have d : s ∣ x - firstOf l s r := by
      refine Int.dvd_of_emod_eq_zero ?_
      rw [Int.sub_emod, c, fm, Int.sub_self, Int.zero_emod]
    obtain ⟨k, hk⟩ := d
    have ex : x = firstOf l s r + s * k := by omega
    have k0 : 0 ≤ k := by
      have f1 := first_lt (l := l) (r := r) hs
      rcases Int.lt_or_le k 0 with z | z
      · have : s * k ≤ s * (-1) := Int.mul_le_mul_of_nonneg_left (by omega) (by omega)
        omega
      · exact z
    exact ⟨k, k0, (lanes_lt hs k0).mpr (by omega), ex⟩
  · rintro ⟨k, k0, k1, ex⟩
    have q := (lanes_lt hs k0).mp k1
    have f1 := first_ge (l := l) (r := r) hs
    have m : 0 ≤ s * k := Int.mul_nonneg (by omega) k0
    refine ⟨by omega, by omega, ?_⟩
    rw [ex, Int.add_mul_emod_self_left, fm]
/-! ### ascending lists -/
theorem asc_ext : ∀ {a b : List Int}, a.Pairwise (· < ·) → b.Pairwise (· < ·) → (∀ x, x ∈ a ↔ x ∈ b) → a = b
  | [], [], _, _, _ => rfl
  | [], y :: b, _, _, h => absurd ((h y).mpr List.mem_cons_self) (by simp)
  | x :: a, [], _, _, h => absurd ((h x).mp List.mem_cons_self) (by simp)
  | x :: a, y :: b, ha, hb, h => by
    rw [List.pairwise_cons] at ha hb
    have e : x = y := by
      rcases List.mem_cons.mp ((h x).mp List.mem_cons_self) with q | q
      · exact q
      · rcases List.mem_cons.mp ((h y).mpr List.mem_cons_self) with z | z
        · exact z.symm
        · have h1 := hb.1 x q
          have h2 := ha.1 y z
          omega
    subst e
    refine congrArg (x :: ·) (asc_ext ha.2 hb.2 fun z => ?_)
    constructor
    · intro hz
      rcases List.mem_cons.mp ((h z).mp (List.mem_cons_of_mem _ hz)) with q | q
      · have := ha.1 z hz; omega
      · exact q
    · intro hz
      rcases List.mem_cons.mp ((h z).mpr (List.mem_cons_of_mem _ hz)) with q | q
      · have := hb.1 z hz; omega
      · exact q
/-- lo, lo + 1, .. below hi -/
def seqI (lo hi : Int) : List Int := (List.range (hi - lo).toNat).map fun i : Nat => lo + i
theorem mem_seqI {lo hi x : Int} : x ∈ seqI lo hi ↔ lo ≤ x ∧ x < hi := by
  unfold seqI
  rw [List.mem_map]
  constructor
  · rintro ⟨i, hi', rfl⟩
    rw [List.mem_range] at hi'
    omega
  · rintro ⟨h1, h2⟩
    exact ⟨(x - lo).toNat, by rw [List.mem_range]; omega, by omega⟩
theorem seqI_asc (lo hi : Int) : (seqI lo hi).Pairwise (· < ·) := by
  unfold seqI
  rw [List.pairwise_map]
  refine List.Pairwise.imp ?_ List.pairwise_lt_range
  intro a b h
  omega
/-- the lanes of a guard, found one by one -/
def listed (l h s r : Int) : List Int := (seqI l h).filter fun x => decide (x % s = r)
theorem mem_listed {l h s r x : Int} : x ∈ listed l h s r ↔ l ≤ x ∧ x < h ∧ x % s = r := by
  unfold listed
  rw [List.mem_filter, mem_seqI, decide_eq_true_eq]
  exact ⟨fun h => ⟨h.1.1, h.1.2, h.2⟩, fun h => ⟨⟨h.1, h.2.1⟩, h.2.2⟩⟩
theorem listed_asc (l h s r : Int) : (listed l h s r).Pairwise (· < ·) := (seqI_asc l h).filter _
/-- the lanes by their numbers -/
def numbered (l h s r : Int) : List Int := (List.range (lanesOf l h s r).toNat).map fun k : Nat => firstOf l s r + s * k
theorem listed_eq {l h s r : Int} (hs : 0 < s) (h0 : 0 ≤ r) (h1 : r < s) : listed l h s r = numbered l h s r := by
  refine asc_ext (listed_asc _ _ _ _) ?_ fun x => ?_
  · unfold numbered
    rw [List.pairwise_map]
    refine List.Pairwise.imp ?_ List.pairwise_lt_range
    intro a b hab
    have : s * (a : Int) < s * (b : Int) := Int.mul_lt_mul_of_pos_left (by omega) hs
    omega
  · rw [mem_listed, lane_iff hs h0 h1]
    unfold numbered
    rw [List.mem_map]
    constructor
    · rintro ⟨k, a, b, rfl⟩
      exact ⟨k.toNat, by rw [List.mem_range]; omega, by rw [Int.toNat_of_nonneg a]⟩
    · rintro ⟨k, a, rfl⟩
      rw [List.mem_range] at a
      exact ⟨k, by omega, by omega, rfl⟩
theorem listed_len {l h s r : Int} (hs : 0 < s) (h0 : 0 ≤ r) (h1 : r < s) : ((listed l h s r).length : Int) = lanesOf l h s r := by
  rw [listed_eq hs h0 h1, numbered, List.length_map, List.length_range]
  exact Int.toNat_of_nonneg (lanes_nonneg _ _ _ _)
/-! ### common lanes -/
theorem both_dvd {s1 s2 g q q2 x y d : Int} (hg : g ≠ 0) (e1 : s1 = g * q) (e2 : s2 = g * q2) (bz : s1 * x + s2 * y = g) : (s1 ∣ d ∧ s2 ∣ d) ↔ q * s2 ∣ d := by
  constructor
  · rintro ⟨⟨u, hu⟩, ⟨v, hv⟩⟩
    refine ⟨v * x + u * y, ?_⟩
    have key : g * d = g * (q * s2 * (v * x + u * y)) := by
      have a1 : d * (s1 * x) = s2 * v * (s1 * x) := by rw [← hv]
      have a2 : d * (s2 * y) = s1 * u * (s2 * y) := by rw [← hu]
      have a3 : g * d = d * (s1 * x) + d * (s2 * y) := by rw [← Int.mul_add, bz, Int.mul_comm]
      rw [a3, a1, a2, e1]
      grind
    exact Int.eq_of_mul_eq_mul_left hg key
  · rintro ⟨u, hu⟩
    exact ⟨⟨q2 * u, by rw [hu, e1, e2]; grind⟩, ⟨q * u, by rw [hu]; grind⟩⟩
theorem dvd_of_emod {s x y : Int} (h : x % s = y % s) : s ∣ x - y := by
  refine Int.dvd_of_emod_eq_zero ?_
  rw [Int.sub_emod, h, Int.sub_self, Int.zero_emod]
theorem emod_of_dvd {s x y : Int} (h : s ∣ x - y) : x % s = y % s := by
  obtain ⟨k, hk⟩ := h
  have : x = y + s * k := by omega
  rw [this, Int.add_mul_emod_self_left]
/-- the remainder of the common lanes -/
def restOf (s1 s2 r1 r2 g q x : Int) : Int := (r1 + s1 * ((r2 - r1) / g * x)) % (q * s2)
theorem rest_ok {s1 s2 r1 r2 g q q2 x y : Int} (hg : 0 < g) (h1 : 0 < s1) (h2 : 0 < s2) (e1 : s1 = g * q) (e2 : s2 = g * q2) (bz : s1 * x + s2 * y = g) (hd : g ∣ r2 - r1) : s1 ∣ restOf s1 s2 r1 r2 g q x - r1 ∧ s2 ∣ restOf s1 s2 r1 r2 g q x - r2 := by
  obtain ⟨t, ht⟩ := hd
  have et : (r2 - r1) / g = t := by rw [ht, Int.mul_ediv_cancel_left _ (by omega)]
  unfold restOf
  rw [et]
  obtain ⟨c, hc⟩ : ∃ c, (r1 + s1 * (t * x)) % (q * s2) = r1 + s1 * (t * x) - q * s2 * c := ⟨(r1 + s1 * (t * x)) / (q * s2), by have := Int.emod_add_mul_ediv (r1 + s1 * (t * x)) (q * s2); omega⟩
  rw [hc]
  constructor
  · exact ⟨t * x - q2 * c, by rw [e1, e2]; grind⟩
  · refine ⟨- (t * y) - q * c, ?_⟩
    have a : s1 * (t * x) = t * (g - s2 * y) := by rw [← bz]; grind
    have b : r2 = r1 + g * t := by omega
    rw [a, b]
    grind
theorem meet_iff {s1 s2 r1 r2 g q q2 x y z : Int} (hg : 0 < g) (h1 : 0 < s1) (h2 : 0 < s2) (e1 : s1 = g * q) (e2 : s2 = g * q2) (bz : s1 * x + s2 * y = g) (a1 : 0 ≤ r1) (b1 : r1 < s1) (a2 : 0 ≤ r2) (b2 : r2 < s2) (hd : g ∣ r2 - r1) :
    (z % s1 = r1 ∧ z % s2 = r2) ↔ z % (q * s2) = restOf s1 s2 r1 r2 g q x := by
  obtain ⟨k1, k2⟩ := rest_ok hg h1 h2 e1 e2 bz hd
  have em1 : r1 % s1 = r1 := Int.emod_eq_of_lt a1 b1
  have em2 : r2 % s2 = r2 := Int.emod_eq_of_lt a2 b2
  have emr : restOf s1 s2 r1 r2 g q x % (q * s2) = restOf s1 s2 r1 r2 g q x := by unfold restOf; rw [Int.emod_emod_of_dvd _ (Int.dvd_refl _)]
  constructor
  · rintro ⟨c1, c2⟩
    rw [← emr]
    refine emod_of_dvd ((both_dvd (by omega) e1 e2 bz).mp ⟨?_, ?_⟩)
    · have d1 := dvd_of_emod (c1.trans em1.symm)
      have := Int.dvd_sub d1 k1
      rwa [show z - r1 - (restOf s1 s2 r1 r2 g q x - r1) = z - restOf s1 s2 r1 r2 g q x by omega] at this
    · have d1 := dvd_of_emod (c2.trans em2.symm)
      have := Int.dvd_sub d1 k2
      rwa [show z - r2 - (restOf s1 s2 r1 r2 g q x - r2) = z - restOf s1 s2 r1 r2 g q x by omega] at this
  · intro c
    rw [← emr] at c
    obtain ⟨d1, d2⟩ := (both_dvd (by omega) e1 e2 bz).mpr (dvd_of_emod c)
    constructor
    · rw [← em1]
      refine emod_of_dvd ?_
      have := Int.dvd_add d1 k1
      rwa [show z - restOf s1 s2 r1 r2 g q x + (restOf s1 s2 r1 r2 g q x - r1) = z - r1 by omega] at this
    · rw [← em2]
      refine emod_of_dvd ?_
      have := Int.dvd_add d2 k2
      rwa [show z - restOf s1 s2 r1 r2 g q x + (restOf s1 s2 r1 r2 g q x - r2) = z - r2 by omega] at this
theorem meet_none {s1 s2 r1 r2 g q q2 z : Int} (e1 : s1 = g * q) (e2 : s2 = g * q2) (a1 : 0 ≤ r1) (b1 : r1 < s1) (a2 : 0 ≤ r2) (b2 : r2 < s2) (hd : ¬ g ∣ r2 - r1) : ¬ (z % s1 = r1 ∧ z % s2 = r2) := by
  rintro ⟨c1, c2⟩
  apply hd
  have d1 := dvd_of_emod (c1.trans (Int.emod_eq_of_lt a1 b1).symm)
  have d2 := dvd_of_emod (c2.trans (Int.emod_eq_of_lt a2 b2).symm)
  have g1 : g ∣ z - r1 := Int.dvd_trans ⟨q, e1⟩ d1
  have g2 : g ∣ z - r2 := Int.dvd_trans ⟨q2, e2⟩ d2
  have := Int.dvd_sub g1 g2
  rwa [show z - r1 - (z - r2) = r2 - r1 by omega] at this
/-! ### bounds by digits -/
theorem log_lt {x : Int} {n : Nat} (h : x.natAbs < 2 ^ n) (hn : 0 < n) : x.natAbs.log2 < n := by
  by_cases hz : x.natAbs = 0
  · rw [hz]; exact hn
  · exact (Nat.log2_lt hz).mpr h
theorem okMul_of {i j : Int} {a b : Nat} (hi : i.natAbs < 2 ^ a) (hj : j.natAbs < 2 ^ b) (ha : 0 < a) (hb : 0 < b) (h : a + b ≤ 1000000) : PL.okMul i j = true := by
  unfold PL.okMul
  have := log_lt hi ha
  have := log_lt hj hb
  exact decide_eq_true (by omega)
theorem okDiv_of {j : Int} {b : Nat} (h0 : j ≠ 0) (hj : j.natAbs < 2 ^ b) (hb : 0 < b) (h : b ≤ 9000) : PL.okDiv j = true := by
  unfold PL.okDiv
  have := log_lt hj hb
  exact decide_eq_true ⟨h0, by omega⟩
end PN
/-! PS: what the defs of guards.py answer. -/
namespace PM
open PySem PySem.Spec PyProof.Rows L2 PL PN
theorem at0 (a : PV) (t : List PV) : atI (a :: t) 0 = some a := by simp [atI, ixN]
theorem at1 (a b : PV) (t : List PV) : atI (a :: b :: t) 1 = some b := by simp [atI, ixN]; rw [if_pos (by omega)]; rfl
theorem at2 (a b c : PV) (t : List PV) : atI (a :: b :: c :: t) 2 = some c := by simp [atI, ixN]; rw [if_pos (by omega)]; rfl
theorem at3 (a b c d : PV) (t : List PV) : atI (a :: b :: c :: d :: t) 3 = some d := by simp [atI, ixN]; rw [if_pos (by omega)]; rfl
local macro_rules | `(tactic| walk_at "ev") => `(tactic| simp only [mOf, endF, start0, gSeq, gNop, gAsg, gRet, gRetO, gAsgO, gDrop, gIf, gOpt, gPar, gPar3, gAug, aName, asNil, asCons, aTup, aLst, setV, setO, eVar, eC, eBin, eUn, eTup, aNil, aCons, oLst, frz, eCall, oCall, avN, avK, permL, lNil, lPv, lSl, tOf, tTru, tNt, tAn, tOrr, eIf, eAn, eOr, eNt, eChain, eCallB, eIxM, gSetIx, getM, pTru, pAdd, pSub, pMul, pFdiv, pMod, pPow, pNeg, pLt, pLe, pGt, pGe, pIs, pIsNot, pAddI, pIx, pLen, pAbs, pMax2, pMin2, Res.bind_ok, Res.bind_ex, Res.bind_stuck, Res.fl_ok, Res.fl_ex, Res.fl_stuck, Res.opt_some, Res.opt_none, lowerA, PL.keyOf, getK, getAll, setAll, setK, distinct, List.map_cons, List.map_nil, List.length_cons, List.length_nil, List.replicate, List.cons_append, List.nil_append, List.append_nil, List.getElem?_cons_zero, List.getElem?_cons_succ, List.getElem?_nil, List.set_cons_zero, List.set_cons_succ, List.filterMap_cons, List.filterMap_nil, Option.bind_some, Option.map_some, Option.elim_some, if_true, if_false, Nat.reduceAdd, Nat.reduceSub, Nat.reduceEqDiff, Nat.reduceLeDiff, ↓reduceIte, Bool.false_eq_true, at0, at1, at2, at3, pEq, pNe, eqB_int, Option.some.injEq, decide_true, decide_false, not_true_eq_false, not_false_eq_true, Bool.and_true, ne_eq, reduceCtorEq, Bool.true_eq_false, Bool.not_true, Bool.not_false])
/-- a guard's tuple -/
abbrev gt (l h s r : Int) : PV := .tup [.int l, .int h, .int s, .int r]
theorem e_first_of (l h s r : Int) (hs : 0 < s) : m_first_of [.val (gt l h s r)] [] = .ok (.int (firstOf l s r)) [] := by
  unfold m_first_of g_first_of
  walk_at "ev"
  rw [if_pos (by omega)]
  simp only [Res.opt_some, Res.bind_ok, Res.fl_ok, Int.fmod_eq_emod_of_nonneg _ (show 0 ≤ s by omega), firstOf]
theorem e_lanes_of (l h s r : Int) (hs : 0 < s) (hd : okDiv s = true) : m_lanes_of [.val (gt l h s r)] [] = .ok (.int (lanesOf l h s r)) [] := by
  unfold m_lanes_of g_lanes_of
  walk_at "ev"
  simp only [e_first_of l h s r hs]
  walk_at "ev"
  rw [if_pos hd]
  walk_at "ev"
  rw [Int.fdiv_eq_ediv_of_nonneg _ (by omega)]
  unfold lanesOf
  congr 1
  congr 1
  omega
/-- is x a lane -/
def isLane (l h s r x : Int) : Bool := decide (l ≤ x ∧ x < h ∧ x % s = r)
theorem e_has (l h s r x : Int) (hs : 0 < s) : m_has [.val (gt l h s r), .val (.int x)] [] = .ok (.bl (isLane l h s r x)) [] := by
  unfold m_has g_has
  walk_at "ev"
  by_cases h1 : l ≤ x <;> by_cases h2 : x < h <;> by_cases h3 : x % s = r <;> simp [h1, h2, h3, isLane, pEq, eqB_int, show s ≠ 0 by omega, Int.fmod_eq_emod_of_nonneg _ (show 0 ≤ s by omega), pTru]
def isGuard (l h s r : Int) : Bool := decide (0 ≤ l ∧ l ≤ h ∧ 0 ≤ r ∧ r < s)
theorem e_is_guard (l h s r : Int) : m_is_guard [.val (gt l h s r)] [] = .ok (.bl (isGuard l h s r)) [] := by
  unfold m_is_guard g_is_guard
  walk_at "ev"
  by_cases h1 : 0 ≤ l <;> by_cases h2 : l ≤ h <;> by_cases h3 : 0 ≤ r <;> by_cases h4 : r < s <;> simp [h1, h2, h3, h4, isGuard, pTru]
theorem guard_iff {l h s r : Int} : isGuard l h s r = true ↔ 0 ≤ l ∧ l ≤ h ∧ 0 ≤ r ∧ r < s := by simp [isGuard]
end PM
/-! PS2: bezout, meeting, and what the laws draw. -/
namespace PM
open PySem PySem.Spec PyProof.Rows L2 PL PN
local macro_rules | `(tactic| walk_at "ev") => `(tactic| simp only [mOf, endF, start0, gSeq, gNop, gAsg, gRet, gRetO, gAsgO, gDrop, gIf, gOpt, gPar, gPar3, gAug, aName, asNil, asCons, aTup, aLst, setV, setO, eVar, eC, eBin, eUn, eTup, aNil, aCons, oLst, frz, eCall, oCall, avN, avK, permL, lNil, lPv, lSl, tOf, tTru, tNt, tAn, tOrr, eIf, eAn, eOr, eNt, eChain, eCallB, eIxM, gSetIx, getM, pTru, pAdd, pSub, pMul, pFdiv, pMod, pPow, pNeg, pLt, pLe, pGt, pGe, pIs, pIsNot, pAddI, pIx, pLen, pAbs, pMax2, pMin2, Res.bind_ok, Res.bind_ex, Res.bind_stuck, Res.fl_ok, Res.fl_ex, Res.fl_stuck, Res.opt_some, Res.opt_none, lowerA, PL.keyOf, getK, getAll, setAll, setK, distinct, List.map_cons, List.map_nil, List.length_cons, List.length_nil, List.replicate, List.cons_append, List.nil_append, List.append_nil, List.getElem?_cons_zero, List.getElem?_cons_succ, List.getElem?_nil, List.set_cons_zero, List.set_cons_succ, List.filterMap_cons, List.filterMap_nil, Option.bind_some, Option.map_some, Option.elim_some, if_true, if_false, Nat.reduceAdd, Nat.reduceSub, Nat.reduceEqDiff, Nat.reduceLeDiff, ↓reduceIte, Bool.false_eq_true, at0, at1, at2, at3, pEq, pNe, eqB_int, Option.some.injEq, decide_true, decide_false, not_true_eq_false, not_false_eq_true, Bool.and_true, ne_eq, reduceCtorEq, Bool.true_eq_false, Bool.not_true, Bool.not_false])
noncomputable def l_bezout_1a : Stt → Res Bool := (tOf (eBin pNe (eVar 3) (eC (.int 0))))
noncomputable def l_bezout_1b : Stt → Fl := (gSeq (gAsg (eBin pFdiv (eVar 2) (eVar 3)) (aName 6)) (gSeq (gPar 2 3 (aCons (eVar 3) (aCons (eBin pSub (eVar 2) (eBin pMul (eVar 6) (eVar 3))) aNil))) (gSeq (gPar 4 5 (aCons (eVar 5) (aCons (eBin pSub (eVar 4) (eBin pMul (eVar 6) (eVar 5))) aNil))) gNop)))
theorem g_bezout_eq : g_bezout = (gSeq (gAsg (eTup (aCons (eVar 0) (aCons (eVar 1) (aCons (eC (.int 1)) (aCons (eC (.int 0)) aNil))))) (aTup 4 (asCons (aName 2) (asCons (aName 3) (asCons (aName 4) (asCons (aName 5) asNil)))))) (gSeq (gWhile l_bezout_1a l_bezout_1b) (gSeq (gRet (eIf (tOf (eBin pGe (eVar 2) (eC (.int 0)))) (eTup (aCons (eVar 2) (aCons (eVar 4) aNil))) (eTup (aCons (eUn pNeg (eVar 2)) (aCons (eUn pNeg (eVar 4)) aNil))))) gNop))) := rfl
noncomputable def l__law_source_1b : PV → Stt → Option Stt := (aName 3)
noncomputable def l__law_source_1c : Stt → Fl := (gSeq (gIf (tOf (eBin pGe (eCallB pAbs (aCons (eVar 3) aNil)) (eBin pPow (eC (.int 10)) (eC (.int 18))))) (gSeq (gAsg (eBin pAdd (eBin pMul (eVar 1) (eBin pPow (eC (.int 10)) (eC (.int 60)))) (eBin pMod (eCallB pAbs (aCons (eVar 3) aNil)) (eBin pPow (eC (.int 10)) (eC (.int 60))))) (aName 1)) gNop) gNop) (gSeq (gAsg (eBin pMod (eBin pAdd (eBin pAdd (eBin pMul (eVar 2) (eC (.int 6700417))) (eBin pMod (eVar 3) (eC (.int 2305843009213693921)))) (eC (.int 13))) (eC (.int 2305843009213693951))) (aName 2)) gNop))
theorem g__law_source_eq : g__law_source = (gSeq (gAsg (eTup (aCons (eC (.int 0)) (aCons (eC (.int 7368787)) aNil))) (aTup 2 (asCons (aName 1) (asCons (aName 2) asNil)))) (gSeq (gFor (iAny (eSl (eVar 0) pNo (pSo (eC (.int 63))))) l__law_source_1b l__law_source_1c) (gSeq (gRetO (oLst (aCons (eVar 1) (aCons (eVar 2) (aCons (eC (.int 0)) aNil))))) gNop))) := rfl
/-- what holds in the loop of bezout -/
structure BzInv (a b f s x y : Int) : Prop where
  f0 : 0 < f
  s0 : 0 ≤ s
  dv : ∀ d, d ∣ f → d ∣ s → d ∣ a ∧ d ∣ b
  u1 : ∃ u, f = a * x + b * u
  u2 : ∃ u, s = a * y + b * u
  sg : ∃ e X Y : Int, (e = 1 ∨ e = -1) ∧ x = e * X ∧ y = -(e * Y) ∧ 0 ≤ X ∧ 0 ≤ Y ∧ X ≤ b ∧ X * s + Y * f = b
theorem BzInv.next {a b f s x y : Int} (i : BzInv a b f s x y) (hs : 0 < s) : BzInv a b s (f - f / s * s) y (x - f / s * y) := by
  have hm : f - f / s * s = f % s := by rw [Int.emod_def, Int.mul_comm]
  have t0 : 0 ≤ f / s := Int.ediv_nonneg (Int.le_of_lt i.f0) i.s0
  refine ⟨hs, ?_, ?_, i.u2, ?_, ?_⟩
  · rw [hm]; exact Int.emod_nonneg _ (by omega)
  · intro d h1 h2
    refine i.dv d ?_ h1
    have : f = (f - f / s * s) + f / s * s := by omega
    rw [this]
    exact Int.dvd_add h2 ((show d ∣ f / s * s from Int.dvd_trans h1 (Int.dvd_mul_left _ _)))
  · obtain ⟨u, hu⟩ := i.u1
    obtain ⟨v, hv⟩ := i.u2
    refine ⟨u - f / s * v, ?_⟩
    generalize f / s = t at *
    subst hu hv
    grind
  · obtain ⟨e, X, Y, he, hx, hy, hX, hY, hb, hq⟩ := i.sg
    refine ⟨-e, Y, X + f / s * Y, by omega, by grind, ?_, hY, ?_, ?_, ?_⟩
    · generalize f / s = t at *
      subst hx hy
      grind
    · have := Int.mul_nonneg t0 hY; omega
    · have h1 : 0 ≤ X * s := Int.mul_nonneg hX i.s0
      have h2 : Y * 1 ≤ Y * f := Int.mul_le_mul_of_nonneg_left i.f0 hY
      omega
    · generalize f / s = t at *
      grind
theorem bz_loop (a b : Int) (hb : b.natAbs < 2 ^ 4000) : ∀ (n : Nat) (f s x y : Int) (w : Option SV), s.toNat < n → f.natAbs < 2 ^ 4000 → s.natAbs < 2 ^ 4000 → BzInv a b f s x y →
    ∃ g x' y' w', whileN l_bezout_1a l_bezout_1b n ⟨[some (.val (.int a)), some (.val (.int b)), some (.val (.int f)), some (.val (.int s)), some (.val (.int x)), some (.val (.int y)), w], []⟩ = .nx ⟨[some (.val (.int a)), some (.val (.int b)), some (.val (.int g)), some (.val (.int 0)), some (.val (.int x')), some (.val (.int y')), w'], []⟩ ∧ BzInv a b g 0 x' y' ∧ g.natAbs < 2 ^ 4000
  | 0, f, s, x, y, w, h, _, _, _ => by omega
  | n + 1, f, s, x, y, w, h, hf, hs, i => by
    have s0 := i.s0
    have f0 := i.f0
    unfold whileN
    by_cases z : s = 0
    · subst z
      refine ⟨f, x, y, w, ?_, i, hf⟩
      unfold l_bezout_1a
      walk_at "ev"
      simp
    · have hd : okDiv s = true := okDiv_of z hs (by decide) (by decide)
      have f1 : f / s ≤ f := Int.ediv_le_self s (Int.le_of_lt f0)
      have t0 : 0 ≤ f / s := Int.ediv_nonneg (Int.le_of_lt f0) s0
      have e1 : f.fdiv s = f / s := Int.fdiv_eq_ediv_of_nonneg _ s0
      obtain ⟨e, X, Y, he, hx, hy, hX, hY, hXb, hq⟩ := i.sg
      have hY2 : Y ≤ b := by
        have h1 : 0 ≤ X * s := Int.mul_nonneg hX i.s0
        have h2 : Y * 1 ≤ Y * f := Int.mul_le_mul_of_nonneg_left i.f0 hY
        omega
      have hyb : y.natAbs < 2 ^ 4000 := by
        have : y.natAbs ≤ b.natAbs := by rcases he with rfl | rfl <;> omega
        omega
      have m1 : okMul (f / s) s = true := okMul_of (a := 4000) (b := 4000) (by omega) hs (by decide) (by decide) (by decide)
      have m2 : okMul (f / s) y = true := okMul_of (a := 4000) (b := 4000) (by omega) hyb (by decide) (by decide) (by decide)
      have i2 := i.next (by omega)
      have hm : f - f / s * s = f % s := by rw [Int.emod_def, Int.mul_comm]
      have hl : f % s < s := Int.emod_lt_of_pos _ (by omega)
      have hn : 0 ≤ f % s := Int.emod_nonneg _ (by omega)
      obtain ⟨g, x', y', w', k1, k2, k3⟩ := bz_loop a b hb n s (f - f / s * s) y (x - f / s * y) (some (.val (.int (f / s)))) (by rw [hm]; omega) hs (by rw [hm]; omega) i2
      refine ⟨g, x', y', w', ?_, k2, k3⟩
      rw [← k1]
      unfold l_bezout_1a l_bezout_1b
      walk_at "ev"
      simp only [beq_eq_false_iff_ne.mpr z, if_pos hd, e1]
      walk_at "ev"
      simp only [if_pos m1]
      walk_at "ev"
      simp only [if_pos m2]
      walk_at "ev"
theorem e_bezout (a b : Int) (ha : 0 < a) (hb : 0 < b) (ha2 : a.natAbs < 2 ^ 4000) (hb2 : b.natAbs < 2 ^ 4000) : ∃ g x q q2 y, m_bezout [.val (.int a), .val (.int b)] [] = .ok (.tup [.int g, .int x]) [] ∧ 0 < g ∧ g.natAbs < 2 ^ 4000 ∧ x.natAbs < 2 ^ 4000 ∧ a = g * q ∧ b = g * q2 ∧ a * x + b * y = g := by
  have i0 : BzInv a b a b 1 0 := ⟨ha, Int.le_of_lt hb, fun d h1 h2 => ⟨h1, h2⟩, ⟨0, by omega⟩, ⟨1, by omega⟩, ⟨1, 1, 0, .inl rfl, by omega, by omega, by omega, by omega, by omega, by omega⟩⟩
  obtain ⟨g, x, y, w, k1, k2, k3⟩ := bz_loop a b hb2 (b.toNat + 1) a b 1 0 none (by omega) ha2 hb2 i0
  obtain ⟨d1, d2⟩ := k2.dv g (Int.dvd_refl g) (Int.dvd_zero g)
  obtain ⟨q, hq⟩ := d1
  obtain ⟨q2, hq2⟩ := d2
  obtain ⟨u, hu⟩ := k2.u1
  have g0 := k2.f0
  obtain ⟨e, X, Y, he, hx, hy, hX, hY, hXb, hz⟩ := k2.sg
  refine ⟨g, x, q, q2, u, ?_, g0, k3, ?_, hq, hq2, hu.symm⟩
  · unfold m_bezout
    rw [g_bezout_eq]
    walk_at "ev"
    rw [gWhile_eq k1 (by simp)]
    walk_at "ev"
    simp only [decide_eq_true (show (g : Int) ≥ 0 by omega)]
    walk_at "ev"
  · have : x.natAbs ≤ b.natAbs := by rcases he with rfl | rfl <;> omega
    omega
end PM
/-! PS3: meeting, met, and what the laws draw. -/
namespace PM
open PySem PySem.Spec PyProof.Rows L2 PL PN
theorem ix30 : ixN 3 0 = some 0 := by decide
theorem ix31 : ixN 3 1 = some 1 := by decide
theorem ix32 : ixN 3 2 = some 2 := by decide
local macro_rules | `(tactic| walk_at "ev") => `(tactic| try simp only [mOf, endF, start0, gSeq, gNop, gAsg, gRet, gRetO, gAsgO, gDrop, gIf, gOpt, gPar, gPar3, gAug, aName, asNil, asCons, aTup, aLst, setV, setO, eVar, eC, eBin, eUn, eTup, aNil, aCons, oLst, frz, eCall, oCall, avN, avK, permL, lNil, lPv, lSl, tOf, tTru, tNt, tAn, tOrr, eIf, eAn, eOr, eNt, eChain, eCallB, eIxM, gSetIx, getM, pTru, pAdd, pSub, pMul, pFdiv, pMod, pPow, pNeg, pLt, pLe, pGt, pGe, pIs, pIsNot, pAddI, pIx, pLen, pAbs, pMax2, pMin2, Res.bind_ok, Res.bind_ex, Res.bind_stuck, Res.fl_ok, Res.fl_ex, Res.fl_stuck, Res.opt_some, Res.opt_none, lowerA, PL.keyOf, getK, getAll, setAll, setK, distinct, List.map_cons, List.map_nil, List.length_cons, List.length_nil, List.replicate, List.cons_append, List.nil_append, List.append_nil, List.getElem?_cons_zero, List.getElem?_cons_succ, List.getElem?_nil, List.set_cons_zero, List.set_cons_succ, List.filterMap_cons, List.filterMap_nil, Option.bind_some, Option.map_some, Option.elim_some, if_true, if_false, Nat.reduceAdd, Nat.reduceSub, Nat.reduceEqDiff, Nat.reduceLeDiff, ↓reduceIte, Bool.false_eq_true, at0, at1, at2, at3, pEq, pNe, eqB_int, Option.some.injEq, decide_true, decide_false, not_true_eq_false, not_false_eq_true, Bool.and_true, ne_eq, reduceCtorEq, Bool.true_eq_false, Bool.not_true, Bool.not_false])
local macro_rules | `(tactic| walk_at "evs") => `(tactic| simp only [*, mOf, endF, start0, gSeq, gNop, gAsg, gRet, gRetO, gAsgO, gDrop, gIf, gOpt, gPar, gPar3, gAug, aName, asNil, asCons, aTup, aLst, setV, setO, eVar, eC, eBin, eUn, eTup, aNil, aCons, oLst, frz, eCall, oCall, avN, avK, permL, lNil, lPv, lSl, tOf, tTru, tNt, tAn, tOrr, eIf, eAn, eOr, eNt, eChain, eCallB, eIxM, gSetIx, getM, pTru, pAdd, pSub, pMul, pFdiv, pMod, pPow, pNeg, pLt, pLe, pGt, pGe, pIs, pIsNot, pAddI, pIx, pLen, pAbs, pMax2, pMin2, Res.bind_ok, Res.bind_ex, Res.bind_stuck, Res.fl_ok, Res.fl_ex, Res.fl_stuck, Res.opt_some, Res.opt_none, lowerA, PL.keyOf, getK, getAll, setAll, setK, distinct, List.map_cons, List.map_nil, List.length_cons, List.length_nil, List.replicate, List.cons_append, List.nil_append, List.append_nil, List.getElem?_cons_zero, List.getElem?_cons_succ, List.getElem?_nil, List.set_cons_zero, List.set_cons_succ, List.filterMap_cons, List.filterMap_nil, Option.bind_some, Option.map_some, Option.elim_some, if_true, if_false, Nat.reduceAdd, Nat.reduceSub, Nat.reduceEqDiff, Nat.reduceLeDiff, ↓reduceIte, Bool.false_eq_true, at0, at1, at2, at3, pEq, pNe, eqB_int, Option.some.injEq, decide_true, decide_false, not_true_eq_false, not_false_eq_true, Bool.and_true, ne_eq, reduceCtorEq, Bool.true_eq_false, Bool.not_true, Bool.not_false, eq_self, not_true_eq_false, not_false_eq_true, ix30, ix31, ix32])
/-- what meeting answers -/
def MeetIs (l1 h1 s1 r1 l2 h2 s2 r2 : Int) (m : PV) : Prop :=
  (m = .non ∧ ∀ z, max l1 l2 ≤ z → z < min h1 h2 → ¬ (z % s1 = r1 ∧ z % s2 = r2)) ∨
  ∃ t c, m = gt (max l1 l2) (min h1 h2) t c ∧ 0 < t ∧ 0 ≤ c ∧ c < t ∧ t.natAbs < 2 ^ 8000 ∧ (∀ z, (z % s1 = r1 ∧ z % s2 = r2) ↔ z % t = c) ∧ s1 ∣ t ∧ s2 ∣ t ∧ t ≤ s1 * s2 ∧ (∀ d, s1 ∣ d → s2 ∣ d → t ∣ d) ∧ 0 < lanesOf (max l1 l2) (min h1 h2) t c
theorem max_ifs (i j : Int) : (if j > i then j else i) = max i j := by split <;> omega
theorem min_ifs (i j : Int) : (if j < i then j else i) = min i j := by split <;> omega
theorem natAbs_mul_lt {a b : Int} {m n : Nat} (ha : a.natAbs < 2 ^ m) (hb : b.natAbs < 2 ^ n) : (a * b).natAbs < 2 ^ (m + n) := by
  rw [Int.natAbs_mul, Nat.pow_add]
  exact Nat.mul_lt_mul_of_lt_of_lt ha hb
theorem natAbs_ediv_le (a : Int) {g : Int} (hg : 0 < g) : (a / g).natAbs ≤ a.natAbs := by
  rcases Int.le_total 0 a with h | h
  · have h1 := Int.ediv_le_self g h
    have h2 := Int.ediv_nonneg h (Int.le_of_lt hg)
    omega
  · have h1 : a / g ≤ 0 := Int.ediv_le_of_le_mul hg (by omega)
    have h2 : a ≤ a / g := by
      refine (Int.le_ediv_iff_mul_le hg).mpr ?_
      have k : 0 ≤ (-a) * (g - 1) := Int.mul_nonneg (by omega) (by omega)
      have e : (-a) * (g - 1) = a - a * g := by grind
      omega
    omega
theorem e_meeting (l1 h1 s1 r1 l2 h2 s2 r2 : Int) (hs1 : 0 < s1) (hs2 : 0 < s2) (b1 : s1.natAbs < 2 ^ 4000) (b2 : s2.natAbs < 2 ^ 4000) (z1 : 0 ≤ r1) (y1 : r1 < s1) (z2 : 0 ≤ r2) (y2 : r2 < s2) :
    ∃ m, m_meeting [.val (gt l1 h1 s1 r1), .val (gt l2 h2 s2 r2)] [] = .ok m [] ∧ MeetIs l1 h1 s1 r1 l2 h2 s2 r2 m := by
  obtain ⟨g, x, q, q2, y, eb, g0, gb, xb, hq, hq2, bz⟩ := e_bezout s1 s2 hs1 hs2 b1 b2
  have hdg : okDiv g = true := okDiv_of (by omega) gb (by decide) (by decide)
  unfold m_meeting g_meeting
  walk_at "ev"
  simp only [eb]
  walk_at "ev"
  simp only [if_pos (show ¬ g = 0 by omega)]
  walk_at "ev"
  have gf : ∀ a : Int, a.fmod g = a % g := fun a => Int.fmod_eq_emod_of_nonneg _ (by omega)
  have gd : ∀ a : Int, a.fdiv g = a / g := fun a => Int.fdiv_eq_ediv_of_nonneg _ (by omega)
  simp only [gf, gd]
  by_cases hd : (r2 - r1) % g = 0
  · have hdv : g ∣ r2 - r1 := Int.dvd_of_emod_eq_zero hd
    have q0 : 0 < q := by
      rcases Int.lt_or_le 0 q with h | h
      · exact h
      · have : g * q ≤ g * 0 := Int.mul_le_mul_of_nonneg_left h (by omega)
        omega
    have e1 : s1 / g = q := by rw [hq, Int.mul_ediv_cancel_left _ (by omega)]
    have t0 : 0 < q * s2 := Int.mul_pos q0 hs2
    have qb : q.natAbs < 2 ^ 4000 := by have := natAbs_ediv_le s1 g0; rw [e1] at this; omega
    have tb := natAbs_mul_lt qb b2
    have m1 : okMul q s2 = true := okMul_of qb b2 (by decide) (by decide) (by decide)
    have ub : ((r2 - r1) / g).natAbs < 2 ^ 4001 := by
      have := natAbs_ediv_le (r2 - r1) g0
      have : (2 : Nat) ^ 4001 = 2 ^ 4000 + 2 ^ 4000 := by rw [Nat.pow_succ]; omega
      omega
    have m2 : okMul ((r2 - r1) / g) x = true := okMul_of ub xb (by decide) (by decide) (by decide)
    have m3 : okMul s1 ((r2 - r1) / g * x) = true := okMul_of b1 (natAbs_mul_lt ub xb) (by decide) (by decide) (by decide)
    have d1 : okDiv (q * s2) = true := okDiv_of (by omega) tb (by decide) (by decide)
    have fm : ∀ a : Int, a.fmod (q * s2) = a % (q * s2) := fun a => Int.fmod_eq_emod_of_nonneg _ (by omega)
    have e2 : (r1 + s1 * ((r2 - r1) / g * x)) % (q * s2) = restOf s1 s2 r1 r2 g q x := rfl
    have c0 : 0 ≤ restOf s1 s2 r1 r2 g q x := Int.emod_nonneg _ (by omega)
    have c1 : restOf s1 s2 r1 r2 g q x < q * s2 := Int.emod_lt_of_pos _ t0
    have el := e_lanes_of (max l1 l2) (min h1 h2) (q * s2) (restOf s1 s2 r1 r2 g q x) t0 d1
    have iff1 := fun z => meet_iff (z := z) g0 hs1 hs2 hq hq2 bz z1 y1 z2 y2 hdv
    simp only [hd, beq_self_eq_true, e1]
    walk_at "ev"
    simp only [if_pos hdg, gd, e1]
    walk_at "ev"
    simp only [if_pos m1]
    walk_at "ev"
    simp only [if_pos hdg, gd]
    walk_at "ev"
    simp only [if_pos m2]
    walk_at "ev"
    simp only [if_pos m3]
    walk_at "ev"
    simp only [if_pos (show ¬ q * s2 = 0 by omega), fm, e2, max_ifs, min_ifs]
    walk_at "ev"
    simp only [el]
    generalize restOf s1 s2 r1 r2 g q x = c at *
    by_cases hl : max l1 l2 < min h1 h2 ∧ lanesOf (max l1 l2) (min h1 h2) (q * s2) c > 0
    · refine ⟨gt (max l1 l2) (min h1 h2) (q * s2) c, ?_, .inr ⟨q * s2, c, rfl, t0, c0, c1, tb, iff1, ⟨q2, by rw [hq, hq2]; grind⟩, ⟨q, by grind⟩, ?_, ?_, hl.2⟩⟩
      · simp only [decide_eq_true hl.1]
        walk_at "ev"
        simp only [decide_eq_true hl.2]
        walk_at "ev"
      · refine Int.mul_le_mul_of_nonneg_right ?_ (by omega)
        rw [hq]
        have := Int.mul_le_mul_of_nonneg_right (show (1 : Int) ≤ g by omega) (Int.le_of_lt q0)
        omega
      · exact fun d k1 k2 => (both_dvd (by omega) hq hq2 bz).mp ⟨k1, k2⟩
    · refine ⟨.non, ?_, .inl ⟨rfl, fun z k1 k2 k3 => hl ⟨by omega, ?_⟩⟩⟩
      · by_cases k : max l1 l2 < min h1 h2
        · simp only [decide_eq_true k]
          walk_at "ev"
          simp only [decide_eq_false (fun k2 => hl ⟨k, k2⟩)]
          walk_at "ev"
        · simp only [decide_eq_false k]
          walk_at "ev"
      · have := (lane_iff (l := max l1 l2) (h := min h1 h2) (x := z) t0 c0 c1).mp ⟨k1, k2, (iff1 z).mp k3⟩
        obtain ⟨k, a, b, _⟩ := this
        omega
  · refine ⟨.non, ?_, .inl ⟨rfl, fun z _ _ => meet_none hq hq2 z1 y1 z2 y2 fun h => hd (Int.emod_eq_zero_of_dvd h)⟩⟩
    simp only [beq_eq_false_iff_ne.mpr hd]
    walk_at "ev"
/-! ### what the laws draw -/
def Src (n : Nat) (m : MO) : Prop := ∃ a b c : Int, m = .lst [.int a, .int b, .int c] ∧ 0 ≤ a ∧ a.natAbs < 2 ^ 13000 ∧ 0 ≤ b ∧ b < 2305843009213693951 ∧ 0 ≤ c ∧ c ≤ n
theorem Src.mono {n k : Nat} {m : MO} (h : Src n m) (hk : n ≤ k) : Src k m := by
  obtain ⟨a, b, c, h1, h2, h3, h4, h5, h6, h7⟩ := h
  exact ⟨a, b, c, h1, h2, h3, h4, h5, h6, by omega⟩
theorem okPow3 {x : Int} {n : Nat} (h : x.natAbs < 2 ^ n) (hn : n ≤ 300000) (h0 : 0 < n) : okPow x 3 = true := by
  unfold okPow
  have := log_lt h h0
  exact decide_eq_true ⟨by decide, by show (x.natAbs.log2 + 1) * 3 ≤ 1000000; omega⟩
def mix1 (b c : Int) : Int := ((b + 179424673 * c) ^ (Int.toNat 3)).fmod 162259276829213363391578010288127
def mix2 (b c : Int) : Int := ((mix1 b c + 86028157 * c) ^ (Int.toNat 3)).fmod 170141183460469231731687303715884105727
theorem e_draw0 (a b c many : Int) (ha : decide (a > 0) = true) (hz : (many = 0) = False) (hd : okDiv many = true) :
    m__law_draw [.bor 0, .val (.int many)] [.lst [.int a, .int b, .int c]] = .ok (.int (a.fmod many)) [.lst [.int (a.fdiv many), .int b, .int c]] := by
  unfold m__law_draw g__law_draw
  iterate 6 (walk_at "ev"; try walk_at "evs")
theorem e_draw1 (a b c many : Int) (ha : decide (a > 0) = false) (hz : (many = 0) = False) (k1 : okMul 179424673 (c + 1) = true) (k2 : okPow (b + 179424673 * (c + 1)) 3 = true) (z1 : ((162259276829213363391578010288127 : Int) = 0) = False) (k3 : okMul 86028157 (c + 1) = true)
    (k4 : okPow (mix1 b (c + 1) + 86028157 * (c + 1)) 3 = true) (z2 : ((170141183460469231731687303715884105727 : Int) = 0) = False) (k5 : okDiv 2097152 = true) (e1 : ((b + 179424673 * (c + 1)) ^ (Int.toNat 3)).fmod 162259276829213363391578010288127 = mix1 b (c + 1)) (e2 : ((mix1 b (c + 1) + 86028157 * (c + 1)) ^ (Int.toNat 3)).fmod 170141183460469231731687303715884105727 = mix2 b (c + 1)) :
    m__law_draw [.bor 0, .val (.int many)] [.lst [.int a, .int b, .int c]] = .ok (.int (((mix2 b (c + 1)).fdiv 2097152).fmod many)) [.lst [.int a, .int b, .int (c + 1)]] := by
  unfold m__law_draw g__law_draw
  iterate 10 (walk_at "ev"; try walk_at "evs")
theorem e_draw {n : Nat} {m : MO} (h : Src n m) (hn : n < 2 ^ 60) (many : Int) (h0 : 0 < many) (hb : many.natAbs < 2 ^ 8000) :
    ∃ d m', m__law_draw [.bor 0, .val (.int many)] [m] = .ok (.int d) [m'] ∧ 0 ≤ d ∧ d < many ∧ Src (n + 1) m' := by
  obtain ⟨a, b, c, rfl, a0, ab, b0, bb, c0, cb⟩ := h
  have hd : okDiv many = true := okDiv_of (by omega) hb (by decide) (by decide)
  by_cases ha : 0 < a
  · refine ⟨_, _, e_draw0 a b c many (decide_eq_true ha) (by simp; omega) hd, ?_⟩
    rw [Int.fmod_eq_emod_of_nonneg _ (by omega), Int.fdiv_eq_ediv_of_nonneg _ (by omega)]
    refine ⟨Int.emod_nonneg _ (by omega), Int.emod_lt_of_pos _ h0, a / many, b, c, rfl, Int.ediv_nonneg a0 (by omega), ?_, b0, bb, c0, by omega⟩
    have := natAbs_ediv_le a h0
    omega
  · have e1 : 0 ≤ mix1 b (c + 1) ∧ mix1 b (c + 1) < 162259276829213363391578010288127 := ⟨Int.fmod_nonneg_of_pos _ (by decide), Int.fmod_lt_of_pos _ (by decide)⟩
    refine ⟨_, _, e_draw1 a b c many (decide_eq_false ha) (by simp; omega) ?_ ?_ (by simp) ?_ ?_ (by simp) (by decide +kernel) rfl rfl, ?_⟩
    · exact okMul_of (i := 179424673) (j := c + 1) (a := 30) (b := 70) (by decide) (by omega) (by decide) (by decide) (by decide)
    · exact okPow3 (n := 200) (by omega) (by decide) (by decide)
    · exact okMul_of (i := 86028157) (j := c + 1) (a := 30) (b := 70) (by decide) (by omega) (by decide) (by decide) (by decide)
    · exact okPow3 (n := 200) (by omega) (by decide) (by decide)
    · rw [Int.fmod_eq_emod_of_nonneg _ (by omega)]
      exact ⟨Int.emod_nonneg _ (by omega), Int.emod_lt_of_pos _ h0, a, b, c + 1, rfl, a0, ab, b0, bb, by omega, by omega⟩
end PM
/-! PS4: the source of what the laws draw. -/
namespace PM
open PySem PySem.Spec PyProof.Rows L2 PL PN
local macro_rules | `(tactic| walk_at "ev") => `(tactic| try simp only [mOf, endF, start0, gSeq, gNop, gAsg, gRet, gRetO, gAsgO, gDrop, gIf, gOpt, gPar, gPar3, gAug, aName, asNil, asCons, aTup, aLst, setV, setO, eVar, eC, eBin, eUn, eTup, aNil, aCons, oLst, frz, eCall, oCall, avN, avK, permL, lNil, lPv, lSl, tOf, tTru, tNt, tAn, tOrr, eIf, eAn, eOr, eNt, eChain, eCallB, eIxM, gSetIx, getM, pTru, pAdd, pSub, pMul, pFdiv, pMod, pPow, pNeg, pLt, pLe, pGt, pGe, pIs, pIsNot, pAddI, pIx, pLen, pAbs, pMax2, pMin2, Res.bind_ok, Res.bind_ex, Res.bind_stuck, Res.fl_ok, Res.fl_ex, Res.fl_stuck, Res.opt_some, Res.opt_none, lowerA, PL.keyOf, getK, getAll, setAll, setK, distinct, List.map_cons, List.map_nil, List.length_cons, List.length_nil, List.replicate, List.cons_append, List.nil_append, List.append_nil, List.getElem?_cons_zero, List.getElem?_cons_succ, List.getElem?_nil, List.set_cons_zero, List.set_cons_succ, List.filterMap_cons, List.filterMap_nil, Option.bind_some, Option.map_some, Option.elim_some, if_true, if_false, Nat.reduceAdd, Nat.reduceSub, Nat.reduceEqDiff, Nat.reduceLeDiff, ↓reduceIte, Bool.false_eq_true, at0, at1, at2, at3, pEq, pNe, eqB_int, Option.some.injEq, decide_true, decide_false, not_true_eq_false, not_false_eq_true, Bool.and_true, ne_eq, reduceCtorEq, Bool.true_eq_false, Bool.not_true, Bool.not_false])
local macro_rules | `(tactic| walk_at "evs") => `(tactic| simp only [*, mOf, endF, start0, gSeq, gNop, gAsg, gRet, gRetO, gAsgO, gDrop, gIf, gOpt, gPar, gPar3, gAug, aName, asNil, asCons, aTup, aLst, setV, setO, eVar, eC, eBin, eUn, eTup, aNil, aCons, oLst, frz, eCall, oCall, avN, avK, permL, lNil, lPv, lSl, tOf, tTru, tNt, tAn, tOrr, eIf, eAn, eOr, eNt, eChain, eCallB, eIxM, gSetIx, getM, pTru, pAdd, pSub, pMul, pFdiv, pMod, pPow, pNeg, pLt, pLe, pGt, pGe, pIs, pIsNot, pAddI, pIx, pLen, pAbs, pMax2, pMin2, Res.bind_ok, Res.bind_ex, Res.bind_stuck, Res.fl_ok, Res.fl_ex, Res.fl_stuck, Res.opt_some, Res.opt_none, lowerA, PL.keyOf, getK, getAll, setAll, setK, distinct, List.map_cons, List.map_nil, List.length_cons, List.length_nil, List.replicate, List.cons_append, List.nil_append, List.append_nil, List.getElem?_cons_zero, List.getElem?_cons_succ, List.getElem?_nil, List.set_cons_zero, List.set_cons_succ, List.filterMap_cons, List.filterMap_nil, Option.bind_some, Option.map_some, Option.elim_some, if_true, if_false, Nat.reduceAdd, Nat.reduceSub, Nat.reduceEqDiff, Nat.reduceLeDiff, ↓reduceIte, Bool.false_eq_true, at0, at1, at2, at3, pEq, pNe, eqB_int, Option.some.injEq, decide_true, decide_false, not_true_eq_false, not_false_eq_true, Bool.and_true, ne_eq, reduceCtorEq, Bool.true_eq_false, Bool.not_true, Bool.not_false, eq_self, not_true_eq_false, not_false_eq_true, ix30, ix31, ix32])
theorem sIx_len (n : Nat) : HT.sIx n n (some 63) = min n 63 := by
  unfold HT.sIx
  simp
  try omega
theorem cut63 (l : List PV) (h : l.length ≤ 63) : pCut l none (some 63) = l := by
  unfold pCut
  rw [sIx_len]
  have : HT.sIx l.length 0 none = 0 := by unfold HT.sIx; simp
  rw [this, List.drop_zero, Nat.sub_zero, Nat.min_eq_left h, List.take_length]
def absI (x : Int) : Int := if x < 0 then -x else x
theorem src_step (a b x : Int) (w : Option SV) (l : PV)
    (k1 : okPow 10 18 = true) (k2 : okPow 10 60 = true) (k3 : okMul a (10 ^ Int.toNat 60) = true) (k4 : okMul b 6700417 = true) (z1 : ((10 : Int) ^ Int.toNat 60 = 0) = False) (z2 : ((2305843009213693921 : Int) = 0) = False) (z3 : ((2305843009213693951 : Int) = 0) = False) (ab : (if x < 0 then -x else x) = absI x) (d : Bool) (hd : decide (absI x ≥ 10 ^ Int.toNat 18) = d) :
    l__law_source_1c ⟨[some (.val l), some (.val (.int a)), some (.val (.int b)), some (.val (.int x))], []⟩ = .nx ⟨[some (.val l), some (.val (.int (if d = true then a * 10 ^ Int.toNat 60 + (absI x).fmod (10 ^ Int.toNat 60) else a))), some (.val (.int ((b * 6700417 + x.fmod 2305843009213693921 + 13).fmod 2305843009213693951))), some (.val (.int x))], []⟩ := by
  unfold l__law_source_1c
  cases d <;> iterate 8 (walk_at "ev"; try walk_at "evs")
theorem pow60 {i : Nat} (h : i ≤ 63) : ((10 : Int) ^ 60) ^ i ≤ (10 ^ 60) ^ 63 := by
  have : ((10 ^ 60) ^ i : Nat) ≤ (10 ^ 60) ^ 63 := Nat.pow_le_pow_right (by decide) h
  exact_mod_cast this
theorem pow63 : ((10 : Int) ^ 60) ^ 63 < 2 ^ 13000 := by decide +kernel
theorem small_of {a : Int} {i : Nat} (h : i ≤ 63) (a0 : 0 ≤ a) (ab : a < (10 ^ 60) ^ i) : a.natAbs < 2 ^ 13000 := by
  have h2 := pow60 h
  have h3 := pow63
  have h4 : (2 : Int) ^ 13000 = ((2 ^ 13000 : Nat) : Int) := by norm_cast
  omega
theorem e_source (ns : List Int) (h : ns.length ≤ 63) : ∃ m, m__law_source [.val (scrOf ns)] [] = .own m [] ∧ Src 0 m := by
  have key := forL_inv (a := l__law_source_1b) (b := l__law_source_1c) (fun i s => ∃ (a b : Int) (w : Option SV), s = ⟨[some (.val (scrOf ns)), some (.val (.int a)), some (.val (.int b)), w], []⟩ ∧ 0 ≤ a ∧ (i ≤ 63 → a < (10 ^ 60) ^ i) ∧ 0 ≤ b ∧ b < 2305843009213693951) (ns.map PV.int) 0 ⟨[some (.val (scrOf ns)), some (.val (.int 0)), some (.val (.int 7368787)), none], []⟩ ⟨0, 7368787, none, rfl, by omega, fun _ => by decide, by omega, by omega⟩ ?_
  · obtain ⟨s2, e2, a, b, w, rfl, a0, ab, b0, bb⟩ := key
    have ab2 := ab (by simpa using h)
    refine ⟨.lst [.int a, .int b, .int 0], ?_, a, b, 0, rfl, a0, ?_, b0, bb, by omega, by omega⟩
    · unfold m__law_source
      rw [g__law_source_eq]
      have cl := cut63 (ns.map PV.int) (by simpa using h)
      walk_at "ev"
      simp only [gFor, iAny, eSl, pNo, pSo, eVar, eC, Res.bind_ok, Res.fl_ok, List.getElem?_cons_zero, scrOf, cl]
      simp only [scrOf] at e2
      rw [e2]
      walk_at "ev"
    · exact small_of (i := 0 + (ns.map PV.int).length) (by simpa using h) a0 ab2
  · rintro i p s hp ⟨a, b, w, rfl, a0, ab, b0, bb⟩
    obtain ⟨x, hx, rfl⟩ := List.mem_map.mp (List.mem_of_getElem? hp)
    have hi : 0 + i ≤ 63 := by
      have := (List.getElem?_eq_some_iff.mp hp).1
      rw [List.length_map] at this
      omega
    refine ⟨_, rfl, _, .inl (src_step a b x w (scrOf ns) (by decide +kernel) (by decide +kernel) ?_ ?_ (by simp) (by simp) (by simp) rfl _ rfl), ?_⟩
    · exact okMul_of (a := 13000) (b := 200) (small_of hi a0 (ab hi)) (by decide) (by decide) (by decide) (by decide)
    · exact okMul_of (a := 62) (b := 23) (by omega) (by decide) (by decide) (by decide) (by decide)
    · have q1 : 0 ≤ (absI x).fmod (10 ^ Int.toNat 60) := Int.fmod_nonneg_of_pos _ (by decide)
      have q2 : (absI x).fmod (10 ^ Int.toNat 60) < 10 ^ 60 := Int.fmod_lt_of_pos _ (by decide)
      have e6 : (10 : Int) ^ Int.toNat 60 = 10 ^ 60 := rfl
      refine ⟨_, _, _, rfl, ?_, fun h63 => ?_, Int.fmod_nonneg_of_pos _ (by decide), Int.fmod_lt_of_pos _ (by decide)⟩
      · split
        · exact Int.add_nonneg (Int.mul_nonneg a0 (by decide)) q1
        · exact a0
      · have a1 := ab hi
        rw [Int.pow_succ]
        have e7 : (a + 1) * 10 ^ 60 ≤ (10 ^ 60) ^ (0 + i) * 10 ^ 60 := Int.mul_le_mul_of_nonneg_right (by omega) (by decide)
        rw [Int.add_mul, Int.one_mul] at e7
        split
        · rw [e6] at q2 ⊢
          omega
        · have : a * 1 ≤ a * 10 ^ 60 := Int.mul_le_mul_of_nonneg_left (by decide) a0
          omega
end PM
/-! PLE: more about the mirrors' words. -/
namespace PL
open PySem PySem.Spec PyProof.Rows L2
theorem filterMap_some' {α β : Type} (f : α → β) (l : List α) : l.filterMap (fun x => some (f x)) = l.map f := by
  induction l with
  | nil => rfl
  | cons x r ih => simp [ih]
theorem atI_at {l : List PV} {i : Nat} {p : PV} (h : l[i]? = some p) : atI l i = some p := by
  have hi := (List.getElem?_eq_some_iff.mp h).1
  simp only [atI, ixN]
  rw [if_pos (by omega)]
  simp only [if_pos (show (i : Int) < (l.length : Int) by omega), Option.bind_some, Int.toNat_natCast, h]
end PL
/-! PQN: lengths without conflicts: the plain law. -/
namespace PN
/-- how many neighbours of a row have different banks -/
def spread (b l : Int) : Int := b / (Int.gcd l b : Int)
def fr (w b l : Int) : Bool := decide (w ≤ spread b l)
end PN
/-! PQ: pools, and what banks.py answers of lengths. -/
namespace PM
open PySem PySem.Spec PyProof.Rows L2 PL PN
local macro_rules | `(tactic| walk_at "ev") => `(tactic| try simp only [mOf, endF, start0, gSeq, gNop, gAsg, gRet, gRetO, gAsgO, gDrop, gIf, gOpt, gPar, gPar3, gAug, aName, asNil, asCons, aTup, aLst, setV, setO, eVar, eC, eBin, eUn, eTup, aNil, aCons, oLst, frz, eCall, oCall, avN, avK, permL, lNil, lPv, lSl, tOf, tTru, tNt, tAn, tOrr, eIf, eAn, eOr, eNt, eChain, eCallB, eIxM, gSetIx, getM, pTru, pAdd, pSub, pMul, pFdiv, pMod, pPow, pNeg, pLt, pLe, pGt, pGe, pIs, pIsNot, pAddI, pIx, pLen, pAbs, pMax2, pMin2, Res.bind_ok, Res.bind_ex, Res.bind_stuck, Res.fl_ok, Res.fl_ex, Res.fl_stuck, Res.opt_some, Res.opt_none, lowerA, PL.keyOf, getK, getAll, setAll, setK, distinct, List.map_cons, List.map_nil, List.length_cons, List.length_nil, List.replicate, List.cons_append, List.nil_append, List.append_nil, List.getElem?_cons_zero, List.getElem?_cons_succ, List.getElem?_nil, List.set_cons_zero, List.set_cons_succ, List.filterMap_cons, List.filterMap_nil, Option.bind_some, Option.map_some, Option.elim_some, if_true, if_false, Nat.reduceAdd, Nat.reduceSub, Nat.reduceEqDiff, Nat.reduceLeDiff, ↓reduceIte, Bool.false_eq_true, at0, at1, at2, at3, pEq, pNe, eqB_int, Option.some.injEq, decide_true, decide_false, not_true_eq_false, not_false_eq_true, Bool.and_true, ne_eq, reduceCtorEq, Bool.true_eq_false, Bool.not_true, Bool.not_false, frz, noEx, wipeS, wipeR, backS, backR, keepV, oComp, gFor, iAny, iRange1, iRange2, iRange3, iRangeW1, iRangeW2, eCallQ, oRg2, oRg1, oRg, tYesD, pIn, pNotIn, eSl, pNo, pSo, forL_nil, gApp, gParO, List.not_mem_nil, List.not_mem_nil])
local macro_rules | `(tactic| walk_at "evs") => `(tactic| simp only [*, mOf, endF, start0, gSeq, gNop, gAsg, gRet, gRetO, gAsgO, gDrop, gIf, gOpt, gPar, gPar3, gAug, aName, asNil, asCons, aTup, aLst, setV, setO, eVar, eC, eBin, eUn, eTup, aNil, aCons, oLst, frz, eCall, oCall, avN, avK, permL, lNil, lPv, lSl, tOf, tTru, tNt, tAn, tOrr, eIf, eAn, eOr, eNt, eChain, eCallB, eIxM, gSetIx, getM, pTru, pAdd, pSub, pMul, pFdiv, pMod, pPow, pNeg, pLt, pLe, pGt, pGe, pIs, pIsNot, pAddI, pIx, pLen, pAbs, pMax2, pMin2, Res.bind_ok, Res.bind_ex, Res.bind_stuck, Res.fl_ok, Res.fl_ex, Res.fl_stuck, Res.opt_some, Res.opt_none, lowerA, PL.keyOf, getK, getAll, setAll, setK, distinct, List.map_cons, List.map_nil, List.length_cons, List.length_nil, List.replicate, List.cons_append, List.nil_append, List.append_nil, List.getElem?_cons_zero, List.getElem?_cons_succ, List.getElem?_nil, List.set_cons_zero, List.set_cons_succ, List.filterMap_cons, List.filterMap_nil, Option.bind_some, Option.map_some, Option.elim_some, if_true, if_false, Nat.reduceAdd, Nat.reduceSub, Nat.reduceEqDiff, Nat.reduceLeDiff, ↓reduceIte, Bool.false_eq_true, at0, at1, at2, at3, pEq, pNe, eqB_int, Option.some.injEq, decide_true, decide_false, not_true_eq_false, not_false_eq_true, Bool.and_true, ne_eq, reduceCtorEq, Bool.true_eq_false, Bool.not_true, Bool.not_false, frz, noEx, wipeS, wipeR, backS, backR, keepV, oComp, gFor, iAny, iRange1, iRange2, iRange3, iRangeW1, iRangeW2, eCallQ, oRg2, oRg1, oRg, tYesD, pIn, pNotIn, eSl, pNo, pSo, forL_nil, gApp, gParO, List.not_mem_nil, List.not_mem_nil, eq_self, not_true_eq_false, not_false_eq_true, ix30, ix31, ix32, Bool.and_self, and_self, and_true, true_and])
theorem seq_nx {f g : Stt → Fl} {s s1 : Stt} (h : f s = .nx s1) : gSeq f g s = g s1 := by simp only [gSeq, h]
theorem seq_rt {f g : Stt → Fl} {s s1 : Stt} {v : PV} (h : f s = .rt v s1) : gSeq f g s = .rt v s1 := by simp only [gSeq, h]
/-! ### pools -/
def Pool (n : Nat) (m : MO) : Prop := ∃ a b c : Int, m = .lst [.int a, .int b, .int c] ∧ 0 ≤ a ∧ 0 ≤ b ∧ b < 2 ^ 100 ∧ 0 ≤ c ∧ c ≤ n
theorem Pool.mono {n k : Nat} {m : MO} (h : Pool n m) (hk : n ≤ k) : Pool k m := by
  obtain ⟨a, b, c, h1, h2, h3, h4, h5, h6⟩ := h
  exact ⟨a, b, c, h1, h2, h3, h4, h5, by omega⟩
/-! ### checks -/
/-! ### spreads -/
end PM
/-! PWN: waves of lanes: the plain law. -/
namespace PN
def lastOf (l h s r : Int) : Int := firstOf l s r + s * (lanesOf l h s r - 1)
end PN
/-! PW: kernels made, and what waves.py answers. -/
namespace PM
open PySem PySem.Spec PyProof.Rows L2 PL PN
local macro_rules | `(tactic| walk_at "ev") => `(tactic| try simp only [mOf, endF, start0, gSeq, gNop, gAsg, gRet, gRetO, gAsgO, gDrop, gIf, gOpt, gPar, gPar3, gAug, aName, asNil, asCons, aTup, aLst, setV, setO, eVar, eC, eBin, eUn, eTup, aNil, aCons, oLst, frz, eCall, oCall, avN, avK, permL, lNil, lPv, lSl, tOf, tTru, tNt, tAn, tOrr, eIf, eAn, eOr, eNt, eChain, eCallB, eIxM, gSetIx, getM, pTru, pAdd, pSub, pMul, pFdiv, pMod, pPow, pNeg, pLt, pLe, pGt, pGe, pIs, pIsNot, pAddI, pIx, pLen, pAbs, pMax2, pMin2, Res.bind_ok, Res.bind_ex, Res.bind_stuck, Res.fl_ok, Res.fl_ex, Res.fl_stuck, Res.opt_some, Res.opt_none, lowerA, PL.keyOf, getK, getAll, setAll, setK, distinct, List.map_cons, List.map_nil, List.length_cons, List.length_nil, List.replicate, List.cons_append, List.nil_append, List.append_nil, List.getElem?_cons_zero, List.getElem?_cons_succ, List.getElem?_nil, List.set_cons_zero, List.set_cons_succ, List.filterMap_cons, List.filterMap_nil, Option.bind_some, Option.map_some, Option.elim_some, if_true, if_false, Nat.reduceAdd, Nat.reduceSub, Nat.reduceEqDiff, Nat.reduceLeDiff, ↓reduceIte, Bool.false_eq_true, at0, at1, at2, at3, pEq, pNe, eqB_int, Option.some.injEq, decide_true, decide_false, not_true_eq_false, not_false_eq_true, Bool.and_true, ne_eq, reduceCtorEq, Bool.true_eq_false, Bool.not_true, Bool.not_false, frz, noEx, wipeS, wipeR, backS, backR, keepV, oComp, gFor, iAny, iRange1, iRange2, iRange3, iRangeW1, iRangeW2, eCallQ, oRgW2, oRgW, iEnumQ, eDct, iTxt, eFld, eMake, gSetFld, eFldM, eTupV, putP, eLenSet, gFrz, Nat.reduceLT, oRg2, oRg1, oRg, tYesD, pIn, pNotIn, eSl, pNo, pSo, forL_nil, gApp, gParO, List.not_mem_nil, List.not_mem_nil])
local macro_rules | `(tactic| walk_at "evs") => `(tactic| simp only [*, mOf, endF, start0, gSeq, gNop, gAsg, gRet, gRetO, gAsgO, gDrop, gIf, gOpt, gPar, gPar3, gAug, aName, asNil, asCons, aTup, aLst, setV, setO, eVar, eC, eBin, eUn, eTup, aNil, aCons, oLst, frz, eCall, oCall, avN, avK, permL, lNil, lPv, lSl, tOf, tTru, tNt, tAn, tOrr, eIf, eAn, eOr, eNt, eChain, eCallB, eIxM, gSetIx, getM, pTru, pAdd, pSub, pMul, pFdiv, pMod, pPow, pNeg, pLt, pLe, pGt, pGe, pIs, pIsNot, pAddI, pIx, pLen, pAbs, pMax2, pMin2, Res.bind_ok, Res.bind_ex, Res.bind_stuck, Res.fl_ok, Res.fl_ex, Res.fl_stuck, Res.opt_some, Res.opt_none, lowerA, PL.keyOf, getK, getAll, setAll, setK, distinct, List.map_cons, List.map_nil, List.length_cons, List.length_nil, List.replicate, List.cons_append, List.nil_append, List.append_nil, List.getElem?_cons_zero, List.getElem?_cons_succ, List.getElem?_nil, List.set_cons_zero, List.set_cons_succ, List.filterMap_cons, List.filterMap_nil, Option.bind_some, Option.map_some, Option.elim_some, if_true, if_false, Nat.reduceAdd, Nat.reduceSub, Nat.reduceEqDiff, Nat.reduceLeDiff, ↓reduceIte, Bool.false_eq_true, at0, at1, at2, at3, pEq, pNe, eqB_int, Option.some.injEq, decide_true, decide_false, not_true_eq_false, not_false_eq_true, Bool.and_true, ne_eq, reduceCtorEq, Bool.true_eq_false, Bool.not_true, Bool.not_false, frz, noEx, wipeS, wipeR, backS, backR, keepV, oComp, gFor, iAny, iRange1, iRange2, iRange3, iRangeW1, iRangeW2, eCallQ, oRgW2, oRgW, iEnumQ, eDct, iTxt, eFld, eMake, gSetFld, eFldM, eTupV, putP, eLenSet, gFrz, Nat.reduceLT, oRg2, oRg1, oRg, tYesD, pIn, pNotIn, eSl, pNo, pSo, forL_nil, gApp, gParO, List.not_mem_nil, List.not_mem_nil, eq_self, not_true_eq_false, not_false_eq_true, ix30, ix31, ix32, Bool.and_self, and_self, and_true, true_and])
noncomputable def l_Kernel___init___1b : PV → Stt → Option Stt := (aTup 2 (asCons (aName 4) (asCons (aName 5) asNil)))
noncomputable def l_Kernel___init___1c_s1 : Stt → Fl := (gIf (tNt (tTru (eCall PM.m_is_statement (avN 2 (lPv (eVar 5) (lPv (eVar 1) lNil)))))) (gSeq (gRaise "InvalidStatement" (eVar 4)) gNop) gNop)
noncomputable def l_Kernel___init___1c : Stt → Fl := (gSeq l_Kernel___init___1c_s1 gNop)
noncomputable def q_Kernel___init___1 : Stt → Fl := (gIf (tOf (eBin pLt (eVar 1) (eC (.int 1)))) (gSeq (gRaise "InvalidLanes" (eVar 1)) gNop) gNop)
noncomputable def q_Kernel___init___2 : Stt → Fl := (gFor (iEnumQ (aCons (eVar 2) aNil)) l_Kernel___init___1b l_Kernel___init___1c)
noncomputable def q_Kernel___init___3 : Stt → Fl := (gDrop (eCall PM.m_check_barriers (avN 2 (lPv (eVar 3) (lPv (eCallB pLen (aCons (eVar 2) aNil)) lNil)))))
noncomputable def q_Kernel___init___4 : Stt → Fl := (gSetFld 0 "Kernel" "lane_count" (eVar 1))
noncomputable def q_Kernel___init___5 : Stt → Fl := (gSetFld 0 "Kernel" "kept_statements" (eTupV (eVar 2)))
noncomputable def q_Kernel___init___6 : Stt → Fl := (gSetFld 0 "Kernel" "kept_barriers" (eTupV (eVar 3)))
theorem g_Kernel___init___eq : g_Kernel___init__ = (gSeq q_Kernel___init___1 (gSeq q_Kernel___init___2 (gSeq q_Kernel___init___3 (gSeq q_Kernel___init___4 (gSeq q_Kernel___init___5 (gSeq q_Kernel___init___6 gNop)))))) := rfl
noncomputable def l_is_statement_1c : PV → Stt → Option Stt := (aName 2)
noncomputable def l_is_statement_1d : Stt → Res Bool := tYesD
noncomputable def l_is_statement_1e : Stt → Res PV := (eCall PM.m_is_array (avN 1 (lPv (eBin pIx (eVar 0) (eVar 2)) lNil)))
noncomputable def q_is_statement_1 : Stt → Fl := (gIf (tOf (eBin pNe (eDct [("put" , .int 7) , ("move" , .int 9) , ("sum" , .int 11)] (eBin pIx (eVar 0) (eC (.int 0)))) (eCallB pLen (aCons (eVar 0) aNil)))) (gSeq (gRet (eC (.bl false))) gNop) gNop)
noncomputable def q_is_statement_2 : Stt → Fl := (gIf (tNt (tTru (eCallB pAll (aCons (frz (oComp [2] (iAny (eDct [("put" , .tup [.int 2]) , ("move" , .tup [.int 2, .int 5]) , ("sum" , .tup [.int 2, .int 5, .int 8])] (eBin pIx (eVar 0) (eC (.int 0))))) l_is_statement_1c l_is_statement_1d l_is_statement_1e)) aNil)))) (gSeq (gRet (eC (.bl false))) gNop) gNop)
noncomputable def q_is_statement_3 : Stt → Fl := (gRet (eAn (eCall PM.m_is_guard (avN 1 (lPv (eBin pIx (eVar 0) (eC (.int 1))) lNil))) (eBin pLe (eBin pIx (eBin pIx (eVar 0) (eC (.int 1))) (eC (.int 1))) (eVar 1))))
theorem g_is_statement_eq : g_is_statement = (gSeq q_is_statement_1 (gSeq q_is_statement_2 (gSeq q_is_statement_3 gNop))) := rfl
noncomputable def l_is_array_1c : PV → Stt → Option Stt := (aName 1)
noncomputable def l_is_array_1d : Stt → Res Bool := tYesD
noncomputable def l_is_array_1e : Stt → Res PV := (eBin pInSg (eVar 1) (eC (.str "abcdefghijklmnopqrstuvwxyz")))
noncomputable def q_is_array_1 : Stt → Fl := (gRet (eAn (eChain pLe pLe (eC (.int 1)) (eCallB pLen (aCons (eVar 0) aNil)) (eC (.int 8))) (eCallB pAll (aCons (frz (oComp [1] (iTxt (eVar 0)) l_is_array_1c l_is_array_1d l_is_array_1e)) aNil))))
theorem g_is_array_eq : g_is_array = (gSeq q_is_array_1 gNop) := rfl
noncomputable def l_check_barriers_1b : PV → Stt → Option Stt := (aTup 2 (asCons (aName 3) (asCons (aName 4) asNil)))
noncomputable def l_check_barriers_1c_s1 : Stt → Fl := (gIf (tNt (tOf (eChain pLt pLt (eVar 2) (eVar 4) (eVar 1)))) (gSeq (gRaise "InvalidBarrier" (eVar 3)) gNop) gNop)
noncomputable def l_check_barriers_1c_s2 : Stt → Fl := (gAsg (eVar 4) (aName 2))
noncomputable def l_check_barriers_1c : Stt → Fl := (gSeq l_check_barriers_1c_s1 (gSeq l_check_barriers_1c_s2 gNop))
noncomputable def q_check_barriers_1 : Stt → Fl := (gAsg (eC (.int 0)) (aName 2))
noncomputable def q_check_barriers_2 : Stt → Fl := (gFor (iEnumQ (aCons (eVar 0) aNil)) l_check_barriers_1b l_check_barriers_1c)
theorem g_check_barriers_eq : g_check_barriers = (gSeq q_check_barriers_1 (gSeq q_check_barriers_2 gNop)) := rfl
abbrev letters : Str := "abcdefghijklmnopqrstuvwxyz"
/-- a name of an array -/
structure ArrN (z : Str) : Prop where
  l0 : 1 ≤ z.length
  l1 : z.length ≤ 8
  sg : ∀ c ∈ z.cps.toList, c ∈ letters.cps.toList
theorem all_true : ∀ l : List PV, allBl (l.map fun _ => PV.bl true) = some (l.map fun _ => true)
  | [] => rfl
  | p :: r => by simp only [List.map_cons, allBl, all_true r, Option.map_some]
theorem pAll_true (l : List PV) : pAll [.lst (l.map fun _ => PV.bl true)] = some (.bl true) := by
  unfold pAll
  simp only [all_true, Option.map_some]
  congr 2
  rw [List.all_eq_true]
  intro b hb
  obtain ⟨p, _, rfl⟩ := List.mem_map.mp hb
  rfl
theorem e_is_array {z : Str} (h : ArrN z) : m_is_array [.val (.str z)] [] = .ok (.bl true) [] := by
  have hz : z.length = z.cps.size := rfl
  have l1 := h.l1
  have l0 := h.l0
  have e := compL_map (vs := [1]) (a := l_is_array_1c) (ft := l_is_array_1d) (fe := l_is_array_1e) (s := ⟨[some (.val (.str z)), none], []⟩)
    (fun _ => some (.bl true)) (PL.signs z) [] (by unfold PL.signs; simp; omega) (by
      intro p hp
      unfold PL.signs at hp
      obtain ⟨c, hc, rfl⟩ := List.mem_map.mp hp
      have hin := h.sg c hc
      refine ⟨_, rfl, .inl ⟨_, .bl true, ⟨[some (.val (.str z)), some (.val (.str ⟨#[c]⟩))], []⟩, rfl, ?_, rfl, rfl⟩⟩
      have k : pInSg (.str ⟨#[c]⟩) (.str letters) = some (.bl true) := by
        show some (PV.bl (decide (c ∈ letters.cps.toList))) = _
        rw [decide_eq_true hin]
      clear hp hc hin h l0 l1 hz
      unfold l_is_array_1e
      iterate 3 (walk_at "ev"; try walk_at "evs"))
  have ef : (PL.signs z).filterMap (fun _ => some (PV.bl true)) = (PL.signs z).map fun _ => PV.bl true := filterMap_some' (fun _ => PV.bl true) (PL.signs z)
  rw [ef, List.nil_append] at e
  have k1 : decide (1 ≤ (z.length : Int)) = true := decide_eq_true (by omega)
  have k2 : decide ((z.length : Int) ≤ 8) = true := decide_eq_true (by omega)
  have k3 : (z.length ≤ 16777216) = True := eq_true (by omega)
  have k4 := pAll_true (PL.signs z)
  clear h l0 l1 hz ef
  unfold m_is_array
  rw [g_is_array_eq]
  unfold q_is_array_1
  generalize (PL.signs z).map (fun _ => PV.bl true) = S at *
  iterate 4 (walk_at "ev"; try walk_at "evs")
theorem arr_x : ArrN "x" := ⟨by decide, by decide, by decide +kernel⟩
abbrev kern (n : Int) (sts bars : List PV) : PV := .ins "Kernel" [("lane_count", .int n), ("kept_statements", .tup sts), ("kept_barriers", .tup bars)]
end PM
/-! PW2: what waves.py answers of a kernel. -/
namespace PM
open PySem PySem.Spec PyProof.Rows L2 PL PN
local macro_rules | `(tactic| walk_at "ev") => `(tactic| try simp only [mOf, endF, start0, gSeq, gNop, gAsg, gRet, gRetO, gAsgO, gDrop, gIf, gOpt, gPar, gPar3, gAug, aName, asNil, asCons, aTup, aLst, setV, setO, eVar, eC, eBin, eUn, eTup, aNil, aCons, oLst, frz, eCall, oCall, avN, avK, permL, lNil, lPv, lSl, tOf, tTru, tNt, tAn, tOrr, eIf, eAn, eOr, eNt, eChain, eCallB, eIxM, gSetIx, getM, pTru, pAdd, pSub, pMul, pFdiv, pMod, pPow, pNeg, pLt, pLe, pGt, pGe, pIs, pIsNot, pAddI, pIx, pLen, pAbs, pMax2, pMin2, Res.bind_ok, Res.bind_ex, Res.bind_stuck, Res.fl_ok, Res.fl_ex, Res.fl_stuck, Res.opt_some, Res.opt_none, lowerA, PL.keyOf, getK, getAll, setAll, setK, distinct, List.map_cons, List.map_nil, List.length_cons, List.length_nil, List.replicate, List.cons_append, List.nil_append, List.append_nil, List.getElem?_cons_zero, List.getElem?_cons_succ, List.getElem?_nil, List.set_cons_zero, List.set_cons_succ, List.filterMap_cons, List.filterMap_nil, Option.bind_some, Option.map_some, Option.elim_some, if_true, if_false, Nat.reduceAdd, Nat.reduceSub, Nat.reduceEqDiff, Nat.reduceLeDiff, ↓reduceIte, Bool.false_eq_true, at0, at1, at2, at3, pEq, pNe, eqB_int, Option.some.injEq, decide_true, decide_false, not_true_eq_false, not_false_eq_true, Bool.and_true, ne_eq, reduceCtorEq, Bool.true_eq_false, Bool.not_true, Bool.not_false, frz, noEx, wipeS, wipeR, backS, backR, keepV, oComp, gFor, iAny, iRange1, iRange2, iRange3, iRangeW1, iRangeW2, eCallQ, oRgW2, oRgW, pInt1, iEnumQ, eDct, iTxt, eFld, eMake, gSetFld, eFldM, eTupV, putP, eLenSet, gFrz, Nat.reduceLT, oRg2, oRg1, oRg, tYesD, pIn, pNotIn, eSl, pNo, pSo, forL_nil, gApp, gParO, List.not_mem_nil, List.not_mem_nil])
local macro_rules | `(tactic| walk_at "evs") => `(tactic| simp only [*, mOf, endF, start0, gSeq, gNop, gAsg, gRet, gRetO, gAsgO, gDrop, gIf, gOpt, gPar, gPar3, gAug, aName, asNil, asCons, aTup, aLst, setV, setO, eVar, eC, eBin, eUn, eTup, aNil, aCons, oLst, frz, eCall, oCall, avN, avK, permL, lNil, lPv, lSl, tOf, tTru, tNt, tAn, tOrr, eIf, eAn, eOr, eNt, eChain, eCallB, eIxM, gSetIx, getM, pTru, pAdd, pSub, pMul, pFdiv, pMod, pPow, pNeg, pLt, pLe, pGt, pGe, pIs, pIsNot, pAddI, pIx, pLen, pAbs, pMax2, pMin2, Res.bind_ok, Res.bind_ex, Res.bind_stuck, Res.fl_ok, Res.fl_ex, Res.fl_stuck, Res.opt_some, Res.opt_none, lowerA, PL.keyOf, getK, getAll, setAll, setK, distinct, List.map_cons, List.map_nil, List.length_cons, List.length_nil, List.replicate, List.cons_append, List.nil_append, List.append_nil, List.getElem?_cons_zero, List.getElem?_cons_succ, List.getElem?_nil, List.set_cons_zero, List.set_cons_succ, List.filterMap_cons, List.filterMap_nil, Option.bind_some, Option.map_some, Option.elim_some, if_true, if_false, Nat.reduceAdd, Nat.reduceSub, Nat.reduceEqDiff, Nat.reduceLeDiff, ↓reduceIte, Bool.false_eq_true, at0, at1, at2, at3, pEq, pNe, eqB_int, Option.some.injEq, decide_true, decide_false, not_true_eq_false, not_false_eq_true, Bool.and_true, ne_eq, reduceCtorEq, Bool.true_eq_false, Bool.not_true, Bool.not_false, frz, noEx, wipeS, wipeR, backS, backR, keepV, oComp, gFor, iAny, iRange1, iRange2, iRange3, iRangeW1, iRangeW2, eCallQ, oRgW2, oRgW, pInt1, iEnumQ, eDct, iTxt, eFld, eMake, gSetFld, eFldM, eTupV, putP, eLenSet, gFrz, Nat.reduceLT, oRg2, oRg1, oRg, tYesD, pIn, pNotIn, eSl, pNo, pSo, forL_nil, gApp, gParO, List.not_mem_nil, List.not_mem_nil, eq_self, not_true_eq_false, not_false_eq_true, ix30, ix31, ix32, Bool.and_self, and_self, and_true, true_and])
/-- a guard of numbers that are not too great -/
structure Gs (l h s r : Int) : Prop where
  l0 : 0 ≤ l
  lh : l ≤ h
  hb : h < 2 ^ 200
  r0 : 0 ≤ r
  r1 : r < s
  sb : s < 2 ^ 200
theorem Gs.s0 {l h s r : Int} (g : Gs l h s r) : 0 < s := by have := g.r0; have := g.r1; omega
theorem Gs.okd {l h s r : Int} (g : Gs l h s r) : okDiv s = true := okDiv_of (b := 4000) (by have := g.s0; omega) (by have := g.s0; have := g.sb; have : (2 : Int) ^ 200 < ((2 ^ 4000 : Nat) : Int) := (by decide +kernel); omega) (by decide) (by decide)
end PM
/-! PLN: lines that lanes touch, wave by wave: the plain law. -/
namespace PN
/-! ### lines -/
def cellL (a b z x : Int) : Int := (a * x + b) / z
end PN
/-! PLN2: sums over waves, floors counted. -/
namespace PN
/-! ### floors counted -/
end PN
/-! PLN3: the lines of all waves, by the first and the last lane of each. -/
namespace PN
def prog (x s : Int) : Nat → List Int
  | 0 => []
  | n + 1 => x :: prog (x + s) s n
/-- how far apart the lines of the last and the first lane of a wave are -/
def DW (l h s r W a b z j : Int) : Int := cellL a b z (lastOf (max l (W * j)) (min h (W * j + W)) s r) - cellL a b z (firstOf (max l (W * j)) s r)
/-! ### waves that begin alike -/
end PN
/-! PLW: what lines.py answers. -/
namespace PM
open PySem PySem.Spec PyProof.Rows L2 PL PN
local macro_rules | `(tactic| walk_at "ev") => `(tactic| try simp only [mOf, endF, start0, gSeq, gNop, gAsg, gRet, gRetO, gAsgO, gDrop, gIf, gOpt, gPar, gPar3, gAug, aName, asNil, asCons, aTup, aLst, setV, setO, eVar, eC, eBin, eUn, eTup, aNil, aCons, oLst, frz, eCall, oCall, avN, avK, permL, lNil, lPv, lSl, tOf, tTru, tNt, tAn, tOrr, eIf, eAn, eOr, eNt, eChain, eCallB, eIxM, gSetIx, getM, pTru, pAdd, pSub, pMul, pFdiv, pMod, pPow, pNeg, pLt, pLe, pGt, pGe, pIs, pIsNot, pAddI, pIx, pLen, pAbs, pMax2, pMin2, Res.bind_ok, Res.bind_ex, Res.bind_stuck, Res.fl_ok, Res.fl_ex, Res.fl_stuck, Res.opt_some, Res.opt_none, lowerA, PL.keyOf, getK, getAll, setAll, setK, distinct, List.map_cons, List.map_nil, List.length_cons, List.length_nil, List.replicate, List.cons_append, List.nil_append, List.append_nil, List.getElem?_cons_zero, List.getElem?_cons_succ, List.getElem?_nil, List.set_cons_zero, List.set_cons_succ, List.filterMap_cons, List.filterMap_nil, Option.bind_some, Option.map_some, Option.elim_some, if_true, if_false, Nat.reduceAdd, Nat.reduceSub, Nat.reduceEqDiff, Nat.reduceLeDiff, ↓reduceIte, Bool.false_eq_true, at0, at1, at2, at3, pEq, pNe, eqB_int, Option.some.injEq, decide_true, decide_false, not_true_eq_false, not_false_eq_true, Bool.and_true, ne_eq, reduceCtorEq, Bool.true_eq_false, Bool.not_true, Bool.not_false, frz, noEx, wipeS, wipeR, backS, backR, keepV, oComp, gFor, iAny, iRange1, iRange2, iRange3, iRangeW1, iRangeW2, eCallQ, oRgW2, oRgW, pInt1, iEnumQ, eDct, iTxt, eFld, eMake, gSetFld, eFldM, eTupV, putP, eLenSet, gFrz, Nat.reduceLT, oRg2, oRg1, oRg, tYesD, pIn, pNotIn, eSl, pNo, pSo, forL_nil, gApp, gParO, List.not_mem_nil, List.not_mem_nil])
local macro_rules | `(tactic| walk_at "evs") => `(tactic| simp only [*, mOf, endF, start0, gSeq, gNop, gAsg, gRet, gRetO, gAsgO, gDrop, gIf, gOpt, gPar, gPar3, gAug, aName, asNil, asCons, aTup, aLst, setV, setO, eVar, eC, eBin, eUn, eTup, aNil, aCons, oLst, frz, eCall, oCall, avN, avK, permL, lNil, lPv, lSl, tOf, tTru, tNt, tAn, tOrr, eIf, eAn, eOr, eNt, eChain, eCallB, eIxM, gSetIx, getM, pTru, pAdd, pSub, pMul, pFdiv, pMod, pPow, pNeg, pLt, pLe, pGt, pGe, pIs, pIsNot, pAddI, pIx, pLen, pAbs, pMax2, pMin2, Res.bind_ok, Res.bind_ex, Res.bind_stuck, Res.fl_ok, Res.fl_ex, Res.fl_stuck, Res.opt_some, Res.opt_none, lowerA, PL.keyOf, getK, getAll, setAll, setK, distinct, List.map_cons, List.map_nil, List.length_cons, List.length_nil, List.replicate, List.cons_append, List.nil_append, List.append_nil, List.getElem?_cons_zero, List.getElem?_cons_succ, List.getElem?_nil, List.set_cons_zero, List.set_cons_succ, List.filterMap_cons, List.filterMap_nil, Option.bind_some, Option.map_some, Option.elim_some, if_true, if_false, Nat.reduceAdd, Nat.reduceSub, Nat.reduceEqDiff, Nat.reduceLeDiff, ↓reduceIte, Bool.false_eq_true, at0, at1, at2, at3, pEq, pNe, eqB_int, Option.some.injEq, decide_true, decide_false, not_true_eq_false, not_false_eq_true, Bool.and_true, ne_eq, reduceCtorEq, Bool.true_eq_false, Bool.not_true, Bool.not_false, frz, noEx, wipeS, wipeR, backS, backR, keepV, oComp, gFor, iAny, iRange1, iRange2, iRange3, iRangeW1, iRangeW2, eCallQ, oRgW2, oRgW, pInt1, iEnumQ, eDct, iTxt, eFld, eMake, gSetFld, eFldM, eTupV, putP, eLenSet, gFrz, Nat.reduceLT, oRg2, oRg1, oRg, tYesD, pIn, pNotIn, eSl, pNo, pSo, forL_nil, gApp, gParO, List.not_mem_nil, List.not_mem_nil, eq_self, not_true_eq_false, not_false_eq_true, ix30, ix31, ix32, Bool.and_self, and_self, and_true, true_and])
noncomputable def l_accesses_in_1c : PV → Stt → Option Stt := (aName 4)
noncomputable def l_accesses_in_1d : Stt → Res Bool := tYesD
noncomputable def l_accesses_in_1e : Stt → Res PV := (eTup (aCons (eVar 0) (aCons (eC (.str "read")) (aStar (eSl (eVar 1) (pSo (eVar 4)) (pSo (eBin pAdd (eVar 4) (eC (.int 3))))) aNil))))
noncomputable def q_accesses_in_1 : Stt → Fl := (gAsg (eDct [("put" , .tup [.int 2]) , ("move" , .tup [.int 2, .int 5]) , ("sum" , .tup [.int 2, .int 5, .int 8])] (eBin pIx (eVar 1) (eC (.int 0)))) (aName 2))
noncomputable def q_accesses_in_2 : Stt → Fl := (gAsg (frz (oComp [4] (iAny (eSl (eVar 2) (pSo (eC (.int 1))) pNo)) l_accesses_in_1c l_accesses_in_1d l_accesses_in_1e)) (aName 3))
noncomputable def q_accesses_in_3 : Stt → Fl := (gRet (frz (oLst (aStar (eVar 3) (aCons (eTup (aCons (eVar 0) (aCons (eC (.str "write")) (aStar (eSl (eVar 1) (pSo (eBin pIx (eVar 2) (eC (.int 0)))) (pSo (eBin pAdd (eBin pIx (eVar 2) (eC (.int 0))) (eC (.int 3))))) aNil)))) aNil)))))
theorem g_accesses_in_eq : g_accesses_in = (gSeq q_accesses_in_1 (gSeq q_accesses_in_2 (gSeq q_accesses_in_3 gNop))) := rfl
noncomputable def l_access_list_1b : PV → Stt → Option Stt := (aTup 2 (asCons (aName 2) (asCons (aName 3) asNil)))
noncomputable def l_access_list_1c_s1 : Stt → Fl := (gExt 1 (eCall PM.m_accesses_in (avN 2 (lPv (eVar 2) (lPv (eVar 3) lNil)))))
noncomputable def l_access_list_1c : Stt → Fl := (gSeq l_access_list_1c_s1 gNop)
noncomputable def q_access_list_1 : Stt → Fl := (gAsgO 1 (oLst aNil))
noncomputable def q_access_list_2 : Stt → Fl := (gFor (iEnumQ (aCons (eFld "Kernel" "kept_statements" (eVar 0)) aNil)) l_access_list_1b l_access_list_1c)
noncomputable def q_access_list_3 : Stt → Fl := (gRet (frz (oMv 1)))
theorem g_access_list_eq : g_access_list = (gSeq q_access_list_1 (gSeq q_access_list_2 (gSeq q_access_list_3 gNop))) := rfl
end PM
/-! PLW2: the accesses of a kernel of one put; waves in groups. -/
namespace PM
open PySem PySem.Spec PyProof.Rows L2 PL PN
local macro_rules | `(tactic| walk_at "ev") => `(tactic| try simp only [mOf, endF, start0, gSeq, gNop, gAsg, gRet, gRetO, gAsgO, gDrop, gIf, gOpt, gPar, gPar3, gAug, aName, asNil, asCons, aTup, aLst, setV, setO, eVar, eC, eBin, eUn, eTup, aNil, aCons, oLst, frz, eCall, oCall, avN, avK, permL, lNil, lPv, lSl, tOf, tTru, tNt, tAn, tOrr, eIf, eAn, eOr, eNt, eChain, eCallB, eIxM, gSetIx, getM, pTru, pAdd, pSub, pMul, pFdiv, pMod, pPow, pNeg, pLt, pLe, pGt, pGe, pIs, pIsNot, pAddI, pIx, pLen, pAbs, pMax2, pMin2, Res.bind_ok, Res.bind_ex, Res.bind_stuck, Res.fl_ok, Res.fl_ex, Res.fl_stuck, Res.opt_some, Res.opt_none, lowerA, PL.keyOf, getK, getAll, setAll, setK, distinct, List.map_cons, List.map_nil, List.length_cons, List.length_nil, List.replicate, List.cons_append, List.nil_append, List.append_nil, List.getElem?_cons_zero, List.getElem?_cons_succ, List.getElem?_nil, List.set_cons_zero, List.set_cons_succ, List.filterMap_cons, List.filterMap_nil, Option.bind_some, Option.map_some, Option.elim_some, if_true, if_false, Nat.reduceAdd, Nat.reduceSub, Nat.reduceEqDiff, Nat.reduceLeDiff, ↓reduceIte, Bool.false_eq_true, at0, at1, at2, at3, pEq, pNe, eqB_int, Option.some.injEq, decide_true, decide_false, not_true_eq_false, not_false_eq_true, Bool.and_true, ne_eq, reduceCtorEq, Bool.true_eq_false, Bool.not_true, Bool.not_false, frz, noEx, wipeS, wipeR, backS, backR, keepV, oComp, gFor, iAny, iRange1, iRange2, iRange3, iRangeW1, iRangeW2, eCallQ, oRgW2, oRgW, pInt1, iEnumQ, eDct, iTxt, eFld, eMake, gSetFld, eFldM, eTupV, putP, eLenSet, gFrz, Nat.reduceLT, oRg2, oRg1, oRg, tYesD, pIn, pNotIn, eSl, pNo, pSo, forL_nil, gApp, gParO, List.not_mem_nil, List.not_mem_nil])
local macro_rules | `(tactic| walk_at "evs") => `(tactic| simp only [*, mOf, endF, start0, gSeq, gNop, gAsg, gRet, gRetO, gAsgO, gDrop, gIf, gOpt, gPar, gPar3, gAug, aName, asNil, asCons, aTup, aLst, setV, setO, eVar, eC, eBin, eUn, eTup, aNil, aCons, oLst, frz, eCall, oCall, avN, avK, permL, lNil, lPv, lSl, tOf, tTru, tNt, tAn, tOrr, eIf, eAn, eOr, eNt, eChain, eCallB, eIxM, gSetIx, getM, pTru, pAdd, pSub, pMul, pFdiv, pMod, pPow, pNeg, pLt, pLe, pGt, pGe, pIs, pIsNot, pAddI, pIx, pLen, pAbs, pMax2, pMin2, Res.bind_ok, Res.bind_ex, Res.bind_stuck, Res.fl_ok, Res.fl_ex, Res.fl_stuck, Res.opt_some, Res.opt_none, lowerA, PL.keyOf, getK, getAll, setAll, setK, distinct, List.map_cons, List.map_nil, List.length_cons, List.length_nil, List.replicate, List.cons_append, List.nil_append, List.append_nil, List.getElem?_cons_zero, List.getElem?_cons_succ, List.getElem?_nil, List.set_cons_zero, List.set_cons_succ, List.filterMap_cons, List.filterMap_nil, Option.bind_some, Option.map_some, Option.elim_some, if_true, if_false, Nat.reduceAdd, Nat.reduceSub, Nat.reduceEqDiff, Nat.reduceLeDiff, ↓reduceIte, Bool.false_eq_true, at0, at1, at2, at3, pEq, pNe, eqB_int, Option.some.injEq, decide_true, decide_false, not_true_eq_false, not_false_eq_true, Bool.and_true, ne_eq, reduceCtorEq, Bool.true_eq_false, Bool.not_true, Bool.not_false, frz, noEx, wipeS, wipeR, backS, backR, keepV, oComp, gFor, iAny, iRange1, iRange2, iRange3, iRangeW1, iRangeW2, eCallQ, oRgW2, oRgW, pInt1, iEnumQ, eDct, iTxt, eFld, eMake, gSetFld, eFldM, eTupV, putP, eLenSet, gFrz, Nat.reduceLT, oRg2, oRg1, oRg, tYesD, pIn, pNotIn, eSl, pNo, pSo, forL_nil, gApp, gParO, List.not_mem_nil, List.not_mem_nil, eq_self, not_true_eq_false, not_false_eq_true, ix30, ix31, ix32, Bool.and_self, and_self, and_true, true_and])
abbrev accW (i : Int) (z : Str) (a b : Int) : PV := .tup [.int i, .str "write", .str z, .int a, .int b]
abbrev k1 (t : Int) (p : PV) : PV := kern t [p] []
/-! ### waves in groups -/
abbrev J1 (l h s r W : Int) : Int := lastOf l h s r / W
end PM
/-! PLW3: count_lines and lines_of_wave answer the lines. -/
namespace PN
end PN
namespace PM
open PySem PySem.Spec PyProof.Rows L2 PL PN
local macro_rules | `(tactic| walk_at "ev") => `(tactic| try simp only [mOf, endF, start0, gSeq, gNop, gAsg, gRet, gRetO, gAsgO, gDrop, gIf, gOpt, gPar, gPar3, gAug, aName, asNil, asCons, aTup, aLst, setV, setO, eVar, eC, eBin, eUn, eTup, aNil, aCons, oLst, frz, eCall, oCall, avN, avK, permL, lNil, lPv, lSl, tOf, tTru, tNt, tAn, tOrr, eIf, eAn, eOr, eNt, eChain, eCallB, eIxM, gSetIx, getM, pTru, pAdd, pSub, pMul, pFdiv, pMod, pPow, pNeg, pLt, pLe, pGt, pGe, pIs, pIsNot, pAddI, pIx, pLen, pAbs, pMax2, pMin2, Res.bind_ok, Res.bind_ex, Res.bind_stuck, Res.fl_ok, Res.fl_ex, Res.fl_stuck, Res.opt_some, Res.opt_none, lowerA, PL.keyOf, getK, getAll, setAll, setK, distinct, List.map_cons, List.map_nil, List.length_cons, List.length_nil, List.replicate, List.cons_append, List.nil_append, List.append_nil, List.getElem?_cons_zero, List.getElem?_cons_succ, List.getElem?_nil, List.set_cons_zero, List.set_cons_succ, List.filterMap_cons, List.filterMap_nil, Option.bind_some, Option.map_some, Option.elim_some, if_true, if_false, Nat.reduceAdd, Nat.reduceSub, Nat.reduceEqDiff, Nat.reduceLeDiff, ↓reduceIte, Bool.false_eq_true, at0, at1, at2, at3, pEq, pNe, eqB_int, Option.some.injEq, decide_true, decide_false, not_true_eq_false, not_false_eq_true, Bool.and_true, ne_eq, reduceCtorEq, Bool.true_eq_false, Bool.not_true, Bool.not_false, frz, noEx, wipeS, wipeR, backS, backR, keepV, oComp, gFor, iAny, iRange1, iRange2, iRange3, iRangeW1, iRangeW2, eCallQ, oRgW2, oRgW, pInt1, iEnumQ, eDct, iTxt, eFld, eMake, gSetFld, eFldM, eTupV, putP, eLenSet, gFrz, Nat.reduceLT, oRg2, oRg1, oRg, tYesD, pIn, pNotIn, eSl, pNo, pSo, forL_nil, gApp, gParO, List.not_mem_nil, List.not_mem_nil])
local macro_rules | `(tactic| walk_at "evs") => `(tactic| simp only [*, mOf, endF, start0, gSeq, gNop, gAsg, gRet, gRetO, gAsgO, gDrop, gIf, gOpt, gPar, gPar3, gAug, aName, asNil, asCons, aTup, aLst, setV, setO, eVar, eC, eBin, eUn, eTup, aNil, aCons, oLst, frz, eCall, oCall, avN, avK, permL, lNil, lPv, lSl, tOf, tTru, tNt, tAn, tOrr, eIf, eAn, eOr, eNt, eChain, eCallB, eIxM, gSetIx, getM, pTru, pAdd, pSub, pMul, pFdiv, pMod, pPow, pNeg, pLt, pLe, pGt, pGe, pIs, pIsNot, pAddI, pIx, pLen, pAbs, pMax2, pMin2, Res.bind_ok, Res.bind_ex, Res.bind_stuck, Res.fl_ok, Res.fl_ex, Res.fl_stuck, Res.opt_some, Res.opt_none, lowerA, PL.keyOf, getK, getAll, setAll, setK, distinct, List.map_cons, List.map_nil, List.length_cons, List.length_nil, List.replicate, List.cons_append, List.nil_append, List.append_nil, List.getElem?_cons_zero, List.getElem?_cons_succ, List.getElem?_nil, List.set_cons_zero, List.set_cons_succ, List.filterMap_cons, List.filterMap_nil, Option.bind_some, Option.map_some, Option.elim_some, if_true, if_false, Nat.reduceAdd, Nat.reduceSub, Nat.reduceEqDiff, Nat.reduceLeDiff, ↓reduceIte, Bool.false_eq_true, at0, at1, at2, at3, pEq, pNe, eqB_int, Option.some.injEq, decide_true, decide_false, not_true_eq_false, not_false_eq_true, Bool.and_true, ne_eq, reduceCtorEq, Bool.true_eq_false, Bool.not_true, Bool.not_false, frz, noEx, wipeS, wipeR, backS, backR, keepV, oComp, gFor, iAny, iRange1, iRange2, iRange3, iRangeW1, iRangeW2, eCallQ, oRgW2, oRgW, pInt1, iEnumQ, eDct, iTxt, eFld, eMake, gSetFld, eFldM, eTupV, putP, eLenSet, gFrz, Nat.reduceLT, oRg2, oRg1, oRg, tYesD, pIn, pNotIn, eSl, pNo, pSo, forL_nil, gApp, gParO, List.not_mem_nil, List.not_mem_nil, eq_self, not_true_eq_false, not_false_eq_true, ix30, ix31, ix32, Bool.and_self, and_self, and_true, true_and])
theorem wk {x : Int} {i j : Nat} (h : x.natAbs < 2 ^ i) (hij : i ≤ j) : x.natAbs < 2 ^ j := Nat.lt_of_lt_of_le h (Nat.pow_le_pow_right (by decide) hij)
end PM
/-! PLW4: lines of a wave; mirrored kernels of one put. -/
namespace PN
end PN
namespace PM
open PySem PySem.Spec PyProof.Rows L2 PL PN
local macro_rules | `(tactic| walk_at "ev") => `(tactic| try simp only [mOf, endF, start0, gSeq, gNop, gAsg, gRet, gRetO, gAsgO, gDrop, gIf, gOpt, gPar, gPar3, gAug, aName, asNil, asCons, aTup, aLst, setV, setO, eVar, eC, eBin, eUn, eTup, aNil, aCons, oLst, frz, eCall, oCall, avN, avK, permL, lNil, lPv, lSl, tOf, tTru, tNt, tAn, tOrr, eIf, eAn, eOr, eNt, eChain, eCallB, eIxM, gSetIx, getM, pTru, pAdd, pSub, pMul, pFdiv, pMod, pPow, pNeg, pLt, pLe, pGt, pGe, pIs, pIsNot, pAddI, pIx, pLen, pAbs, pMax2, pMin2, Res.bind_ok, Res.bind_ex, Res.bind_stuck, Res.fl_ok, Res.fl_ex, Res.fl_stuck, Res.opt_some, Res.opt_none, lowerA, PL.keyOf, getK, getAll, setAll, setK, distinct, List.map_cons, List.map_nil, List.length_cons, List.length_nil, List.replicate, List.cons_append, List.nil_append, List.append_nil, List.getElem?_cons_zero, List.getElem?_cons_succ, List.getElem?_nil, List.set_cons_zero, List.set_cons_succ, List.filterMap_cons, List.filterMap_nil, Option.bind_some, Option.map_some, Option.elim_some, if_true, if_false, Nat.reduceAdd, Nat.reduceSub, Nat.reduceEqDiff, Nat.reduceLeDiff, ↓reduceIte, Bool.false_eq_true, at0, at1, at2, at3, pEq, pNe, eqB_int, Option.some.injEq, decide_true, decide_false, not_true_eq_false, not_false_eq_true, Bool.and_true, ne_eq, reduceCtorEq, Bool.true_eq_false, Bool.not_true, Bool.not_false, frz, noEx, wipeS, wipeR, backS, backR, keepV, oComp, gFor, iAny, iRange1, iRange2, iRange3, iRangeW1, iRangeW2, eCallQ, oRgW2, oRgW, pInt1, iEnumQ, eDct, iTxt, eFld, eMake, gSetFld, eFldM, eTupV, putP, eLenSet, gFrz, Nat.reduceLT, oRg2, oRg1, oRg, tYesD, pIn, pNotIn, eSl, pNo, pSo, forL_nil, gApp, gParO, List.not_mem_nil, List.not_mem_nil])
local macro_rules | `(tactic| walk_at "evs") => `(tactic| simp only [*, mOf, endF, start0, gSeq, gNop, gAsg, gRet, gRetO, gAsgO, gDrop, gIf, gOpt, gPar, gPar3, gAug, aName, asNil, asCons, aTup, aLst, setV, setO, eVar, eC, eBin, eUn, eTup, aNil, aCons, oLst, frz, eCall, oCall, avN, avK, permL, lNil, lPv, lSl, tOf, tTru, tNt, tAn, tOrr, eIf, eAn, eOr, eNt, eChain, eCallB, eIxM, gSetIx, getM, pTru, pAdd, pSub, pMul, pFdiv, pMod, pPow, pNeg, pLt, pLe, pGt, pGe, pIs, pIsNot, pAddI, pIx, pLen, pAbs, pMax2, pMin2, Res.bind_ok, Res.bind_ex, Res.bind_stuck, Res.fl_ok, Res.fl_ex, Res.fl_stuck, Res.opt_some, Res.opt_none, lowerA, PL.keyOf, getK, getAll, setAll, setK, distinct, List.map_cons, List.map_nil, List.length_cons, List.length_nil, List.replicate, List.cons_append, List.nil_append, List.append_nil, List.getElem?_cons_zero, List.getElem?_cons_succ, List.getElem?_nil, List.set_cons_zero, List.set_cons_succ, List.filterMap_cons, List.filterMap_nil, Option.bind_some, Option.map_some, Option.elim_some, if_true, if_false, Nat.reduceAdd, Nat.reduceSub, Nat.reduceEqDiff, Nat.reduceLeDiff, ↓reduceIte, Bool.false_eq_true, at0, at1, at2, at3, pEq, pNe, eqB_int, Option.some.injEq, decide_true, decide_false, not_true_eq_false, not_false_eq_true, Bool.and_true, ne_eq, reduceCtorEq, Bool.true_eq_false, Bool.not_true, Bool.not_false, frz, noEx, wipeS, wipeR, backS, backR, keepV, oComp, gFor, iAny, iRange1, iRange2, iRange3, iRangeW1, iRangeW2, eCallQ, oRgW2, oRgW, pInt1, iEnumQ, eDct, iTxt, eFld, eMake, gSetFld, eFldM, eTupV, putP, eLenSet, gFrz, Nat.reduceLT, oRg2, oRg1, oRg, tYesD, pIn, pNotIn, eSl, pNo, pSo, forL_nil, gApp, gParO, List.not_mem_nil, List.not_mem_nil, eq_self, not_true_eq_false, not_false_eq_true, ix30, ix31, ix32, Bool.and_self, and_self, and_true, true_and])
/-! ### mirrored -/
end PM
/-! PLW5: count_lines and lines_of_wave of any access. -/
namespace PM
open PySem PySem.Spec PyProof.Rows L2 PL PN
local macro_rules | `(tactic| walk_at "ev") => `(tactic| try simp only [mOf, endF, start0, gSeq, gNop, gAsg, gRet, gRetO, gAsgO, gDrop, gIf, gOpt, gPar, gPar3, gAug, aName, asNil, asCons, aTup, aLst, setV, setO, eVar, eC, eBin, eUn, eTup, aNil, aCons, oLst, frz, eCall, oCall, avN, avK, permL, lNil, lPv, lSl, tOf, tTru, tNt, tAn, tOrr, eIf, eAn, eOr, eNt, eChain, eCallB, eIxM, gSetIx, getM, pTru, pAdd, pSub, pMul, pFdiv, pMod, pPow, pNeg, pLt, pLe, pGt, pGe, pIs, pIsNot, pAddI, pIx, pLen, pAbs, pMax2, pMin2, Res.bind_ok, Res.bind_ex, Res.bind_stuck, Res.fl_ok, Res.fl_ex, Res.fl_stuck, Res.opt_some, Res.opt_none, lowerA, PL.keyOf, getK, getAll, setAll, setK, distinct, List.map_cons, List.map_nil, List.length_cons, List.length_nil, List.replicate, List.cons_append, List.nil_append, List.append_nil, List.getElem?_cons_zero, List.getElem?_cons_succ, List.getElem?_nil, List.set_cons_zero, List.set_cons_succ, List.filterMap_cons, List.filterMap_nil, Option.bind_some, Option.map_some, Option.elim_some, if_true, if_false, Nat.reduceAdd, Nat.reduceSub, Nat.reduceEqDiff, Nat.reduceLeDiff, ↓reduceIte, Bool.false_eq_true, at0, at1, at2, at3, pEq, pNe, eqB_int, Option.some.injEq, decide_true, decide_false, not_true_eq_false, not_false_eq_true, Bool.and_true, ne_eq, reduceCtorEq, Bool.true_eq_false, Bool.not_true, Bool.not_false, frz, noEx, wipeS, wipeR, backS, backR, keepV, oComp, gFor, iAny, iRange1, iRange2, iRange3, iRangeW1, iRangeW2, eCallQ, oRgW2, oRgW, pInt1, iEnumQ, eDct, iTxt, eFld, eMake, gSetFld, eFldM, eTupV, putP, eLenSet, gFrz, Nat.reduceLT, oRg2, oRg1, oRg, tYesD, pIn, pNotIn, eSl, pNo, pSo, forL_nil, gApp, gParO, List.not_mem_nil, List.not_mem_nil])
local macro_rules | `(tactic| walk_at "evs") => `(tactic| simp only [*, mOf, endF, start0, gSeq, gNop, gAsg, gRet, gRetO, gAsgO, gDrop, gIf, gOpt, gPar, gPar3, gAug, aName, asNil, asCons, aTup, aLst, setV, setO, eVar, eC, eBin, eUn, eTup, aNil, aCons, oLst, frz, eCall, oCall, avN, avK, permL, lNil, lPv, lSl, tOf, tTru, tNt, tAn, tOrr, eIf, eAn, eOr, eNt, eChain, eCallB, eIxM, gSetIx, getM, pTru, pAdd, pSub, pMul, pFdiv, pMod, pPow, pNeg, pLt, pLe, pGt, pGe, pIs, pIsNot, pAddI, pIx, pLen, pAbs, pMax2, pMin2, Res.bind_ok, Res.bind_ex, Res.bind_stuck, Res.fl_ok, Res.fl_ex, Res.fl_stuck, Res.opt_some, Res.opt_none, lowerA, PL.keyOf, getK, getAll, setAll, setK, distinct, List.map_cons, List.map_nil, List.length_cons, List.length_nil, List.replicate, List.cons_append, List.nil_append, List.append_nil, List.getElem?_cons_zero, List.getElem?_cons_succ, List.getElem?_nil, List.set_cons_zero, List.set_cons_succ, List.filterMap_cons, List.filterMap_nil, Option.bind_some, Option.map_some, Option.elim_some, if_true, if_false, Nat.reduceAdd, Nat.reduceSub, Nat.reduceEqDiff, Nat.reduceLeDiff, ↓reduceIte, Bool.false_eq_true, at0, at1, at2, at3, pEq, pNe, eqB_int, Option.some.injEq, decide_true, decide_false, not_true_eq_false, not_false_eq_true, Bool.and_true, ne_eq, reduceCtorEq, Bool.true_eq_false, Bool.not_true, Bool.not_false, frz, noEx, wipeS, wipeR, backS, backR, keepV, oComp, gFor, iAny, iRange1, iRange2, iRange3, iRangeW1, iRangeW2, eCallQ, oRgW2, oRgW, pInt1, iEnumQ, eDct, iTxt, eFld, eMake, gSetFld, eFldM, eTupV, putP, eLenSet, gFrz, Nat.reduceLT, oRg2, oRg1, oRg, tYesD, pIn, pNotIn, eSl, pNo, pSo, forL_nil, gApp, gParO, List.not_mem_nil, List.not_mem_nil, eq_self, not_true_eq_false, not_false_eq_true, ix30, ix31, ix32, Bool.and_self, and_self, and_true, true_and])
end PM
/-! PWK: statements of all words, kernels with barriers. -/
namespace PM
open PySem PySem.Spec PyProof.Rows L2 PL PN
local macro_rules | `(tactic| walk_at "ev") => `(tactic| try simp only [mOf, endF, start0, gSeq, gNop, gAsg, gRet, gRetO, gAsgO, gDrop, gIf, gOpt, gPar, gPar3, gAug, aName, asNil, asCons, aTup, aLst, setV, setO, eVar, eC, eBin, eUn, eTup, aNil, aCons, oLst, frz, eCall, oCall, avN, avK, permL, lNil, lPv, lSl, tOf, tTru, tNt, tAn, tOrr, eIf, eAn, eOr, eNt, eChain, eCallB, eIxM, gSetIx, getM, pTru, pAdd, pSub, pMul, pFdiv, pMod, pPow, pNeg, pLt, pLe, pGt, pGe, pIs, pIsNot, pAddI, pIx, pLen, pAbs, pMax2, pMin2, Res.bind_ok, Res.bind_ex, Res.bind_stuck, Res.fl_ok, Res.fl_ex, Res.fl_stuck, Res.opt_some, Res.opt_none, lowerA, PL.keyOf, getK, getAll, setAll, setK, distinct, List.map_cons, List.map_nil, List.length_cons, List.length_nil, List.replicate, List.cons_append, List.nil_append, List.append_nil, List.getElem?_cons_zero, List.getElem?_cons_succ, List.getElem?_nil, List.set_cons_zero, List.set_cons_succ, List.filterMap_cons, List.filterMap_nil, Option.bind_some, Option.map_some, Option.elim_some, if_true, if_false, Nat.reduceAdd, Nat.reduceSub, Nat.reduceEqDiff, Nat.reduceLeDiff, ↓reduceIte, Bool.false_eq_true, at0, at1, at2, at3, pEq, pNe, eqB_int, Option.some.injEq, decide_true, decide_false, not_true_eq_false, not_false_eq_true, Bool.and_true, ne_eq, reduceCtorEq, Bool.true_eq_false, Bool.not_true, Bool.not_false, frz, noEx, wipeS, wipeR, backS, backR, keepV, oComp, gFor, iAny, iRange1, iRange2, iRange3, iRangeW1, iRangeW2, eCallQ, oRgW2, oRgW, pInt1, iEnumQ, eDct, iTxt, eFld, eMake, gSetFld, eFldM, eTupV, putP, eLenSet, gFrz, Nat.reduceLT, oRg2, oRg1, oRg, tYesD, pIn, pNotIn, eSl, pNo, pSo, forL_nil, gApp, gParO, List.not_mem_nil, List.not_mem_nil])
local macro_rules | `(tactic| walk_at "evs") => `(tactic| simp only [*, mOf, endF, start0, gSeq, gNop, gAsg, gRet, gRetO, gAsgO, gDrop, gIf, gOpt, gPar, gPar3, gAug, aName, asNil, asCons, aTup, aLst, setV, setO, eVar, eC, eBin, eUn, eTup, aNil, aCons, oLst, frz, eCall, oCall, avN, avK, permL, lNil, lPv, lSl, tOf, tTru, tNt, tAn, tOrr, eIf, eAn, eOr, eNt, eChain, eCallB, eIxM, gSetIx, getM, pTru, pAdd, pSub, pMul, pFdiv, pMod, pPow, pNeg, pLt, pLe, pGt, pGe, pIs, pIsNot, pAddI, pIx, pLen, pAbs, pMax2, pMin2, Res.bind_ok, Res.bind_ex, Res.bind_stuck, Res.fl_ok, Res.fl_ex, Res.fl_stuck, Res.opt_some, Res.opt_none, lowerA, PL.keyOf, getK, getAll, setAll, setK, distinct, List.map_cons, List.map_nil, List.length_cons, List.length_nil, List.replicate, List.cons_append, List.nil_append, List.append_nil, List.getElem?_cons_zero, List.getElem?_cons_succ, List.getElem?_nil, List.set_cons_zero, List.set_cons_succ, List.filterMap_cons, List.filterMap_nil, Option.bind_some, Option.map_some, Option.elim_some, if_true, if_false, Nat.reduceAdd, Nat.reduceSub, Nat.reduceEqDiff, Nat.reduceLeDiff, ↓reduceIte, Bool.false_eq_true, at0, at1, at2, at3, pEq, pNe, eqB_int, Option.some.injEq, decide_true, decide_false, not_true_eq_false, not_false_eq_true, Bool.and_true, ne_eq, reduceCtorEq, Bool.true_eq_false, Bool.not_true, Bool.not_false, frz, noEx, wipeS, wipeR, backS, backR, keepV, oComp, gFor, iAny, iRange1, iRange2, iRange3, iRangeW1, iRangeW2, eCallQ, oRgW2, oRgW, pInt1, iEnumQ, eDct, iTxt, eFld, eMake, gSetFld, eFldM, eTupV, putP, eLenSet, gFrz, Nat.reduceLT, oRg2, oRg1, oRg, tYesD, pIn, pNotIn, eSl, pNo, pSo, forL_nil, gApp, gParO, List.not_mem_nil, List.not_mem_nil, eq_self, not_true_eq_false, not_false_eq_true, ix30, ix31, ix32, Bool.and_self, and_self, and_true, true_and])
/-- the words and what follows the cell -/
inductive StF where
  | put (c d : Int) | move (z2 : Str) (c d e : Int) | sum (z2 : Str) (c d : Int) (z3 : Str) (e f : Int)
structure Stm where
  l : Int
  h : Int
  s : Int
  r : Int
  z : Str
  a : Int
  b : Int
  k : StF
def Stm.items (x : Stm) : List PV := match x.k with
  | .put c d => [.str "put", gt x.l x.h x.s x.r, .str x.z, .int x.a, .int x.b, .int c, .int d]
  | .move z2 c d e => [.str "move", gt x.l x.h x.s x.r, .str x.z, .int x.a, .int x.b, .str z2, .int c, .int d, .int e]
  | .sum z2 c d z3 e f => [.str "sum", gt x.l x.h x.s x.r, .str x.z, .int x.a, .int x.b, .str z2, .int c, .int d, .str z3, .int e, .int f]
def Stm.pv (x : Stm) : PV := .tup x.items
/-- a name that may be compared -/
structure Nm (z : Str) : Prop where
  arr : ArrN z
  so : PyData.strOk z = true
def Sm (x : Int) : Prop := x.natAbs < 2 ^ 300
def StF.ok : StF → Prop
  | .put c d => Sm c
  | .move z2 c d e => Nm z2 ∧ Sm c
  | .sum z2 c d z3 e f => Nm z2 ∧ Sm c ∧ Nm z3 ∧ Sm e
structure Stm.ok (n : Int) (x : Stm) : Prop where
  l0 : 0 ≤ x.l
  lh : x.l ≤ x.h
  hn : x.h ≤ n
  r0 : 0 ≤ x.r
  r1 : x.r < x.s
  sb : x.s < 2 ^ 200
  z : Nm x.z
  a : Sm x.a
  k : x.k.ok
/-! ### data compared -/
def Dd (p : PV) (k : Nat) : Prop := ∃ d, toD p = some d ∧ d.canLay0 = true ∧ d.depth ≤ k
theorem Dd.mono {p : PV} {k k' : Nat} (h : Dd p k) (hk : k ≤ k') : Dd p k' := by
  obtain ⟨d, h1, h2, h3⟩ := h
  exact ⟨d, h1, h2, Nat.le_trans h3 hk⟩
theorem Dd.int (i : Int) : Dd (.int i) 0 := ⟨.int i, rfl, by simp [PyData.canLay0], by simp [PyData.depth]⟩
theorem Dd.str {x : Str} (h : PyData.strOk x = true) : Dd (.str x) 0 := ⟨.str x, rfl, by simp [PyData.canLay0, h], by simp [PyData.depth]⟩
theorem Dds.of {k : Nat} : ∀ {l : List PV}, (∀ p ∈ l, Dd p k) → ∃ ds, toDs l = some ds ∧ PyData.canLayAll0 ds = true ∧ PyData.depthAll ds ≤ k
  | [], _ => ⟨[], rfl, by simp [PyData.canLayAll0], by simp [PyData.depthAll]⟩
  | p :: r, h => by
    obtain ⟨d, h1, h2, h3⟩ := h p List.mem_cons_self
    obtain ⟨ds, g1, g2, g3⟩ := Dds.of (l := r) fun q hq => h q (List.mem_cons_of_mem _ hq)
    refine ⟨d :: ds, ?_, ?_, ?_⟩
    · unfold toDs; rw [h1, g1]
    · rw [PyData.canLayAll0, h2, g2]; rfl
    · rw [PyData.depthAll]; omega
theorem Dd.tup {l : List PV} {k : Nat} (h : ∀ p ∈ l, Dd p k) : Dd (.tup l) (k + 1) := by
  obtain ⟨ds, g1, g2, g3⟩ := Dds.of h
  exact ⟨.tuple ds, by unfold toD; rw [g1]; rfl, by rw [PyData.canLay0]; exact g2, by rw [PyData.depth]; omega⟩
theorem Dd.lst {l : List PV} {k : Nat} (h : ∀ p ∈ l, Dd p k) : Dd (.lst l) (k + 1) := by
  obtain ⟨ds, g1, g2, g3⟩ := Dds.of h
  exact ⟨.list ds, by unfold toD; rw [g1]; rfl, by rw [PyData.canLay0]; exact g2, by rw [PyData.depth]; omega⟩
theorem Dd.eq_self {p : PV} {k : Nat} (h : Dd p k) (hk : k ≤ 64) : pEqB p p = some true := by
  obtain ⟨d, h1, h2, h3⟩ := h
  have sh : SeqAt.shaped d = true := by
    unfold SeqAt.shaped
    rw [h2, decide_eq_true (Nat.le_trans h3 hk)]; rfl
  unfold pEqB
  simp only [h1, sh, Bool.and_self, if_true]
  rw [SeqAt.eqv_refl d h2]
end PM
/-! PWK2: what kernels.py answers of statements of all words and of kernels with barriers. -/
namespace PM
open PySem PySem.Spec PyProof.Rows L2 PL PN
local macro_rules | `(tactic| walk_at "ev") => `(tactic| try simp only [mOf, endF, start0, gSeq, gNop, gAsg, gRet, gRetO, gAsgO, gDrop, gIf, gOpt, gPar, gPar3, gAug, aName, asNil, asCons, aTup, aLst, setV, setO, eVar, eC, eBin, eUn, eTup, aNil, aCons, oLst, frz, eCall, oCall, avN, avK, permL, lNil, lPv, lSl, tOf, tTru, tNt, tAn, tOrr, eIf, eAn, eOr, eNt, eChain, eCallB, eIxM, gSetIx, getM, pTru, pAdd, pSub, pMul, pFdiv, pMod, pPow, pNeg, pLt, pLe, pGt, pGe, pIs, pIsNot, pAddI, pIx, pLen, pAbs, pMax2, pMin2, Res.bind_ok, Res.bind_ex, Res.bind_stuck, Res.fl_ok, Res.fl_ex, Res.fl_stuck, Res.opt_some, Res.opt_none, lowerA, PL.keyOf, getK, getAll, setAll, setK, distinct, List.map_cons, List.map_nil, List.length_cons, List.length_nil, List.replicate, List.cons_append, List.nil_append, List.append_nil, List.getElem?_cons_zero, List.getElem?_cons_succ, List.getElem?_nil, List.set_cons_zero, List.set_cons_succ, List.filterMap_cons, List.filterMap_nil, Option.bind_some, Option.map_some, Option.elim_some, if_true, if_false, Nat.reduceAdd, Nat.reduceSub, Nat.reduceEqDiff, Nat.reduceLeDiff, ↓reduceIte, Bool.false_eq_true, at0, at1, at2, at3, pEq, pNe, eqB_int, Option.some.injEq, decide_true, decide_false, not_true_eq_false, not_false_eq_true, Bool.and_true, ne_eq, reduceCtorEq, Bool.true_eq_false, Bool.not_true, Bool.not_false, frz, noEx, wipeS, wipeR, backS, backR, keepV, oComp, gFor, iAny, iRange1, iRange2, iRange3, iRangeW1, iRangeW2, eCallQ, oRgW2, oRgW, pInt1, iEnumQ, eDct, iTxt, eFld, eMake, gSetFld, eFldM, eTupV, putP, eLenSet, gFrz, Nat.reduceLT, oRg2, oRg1, oRg, tYesD, pIn, pNotIn, eSl, pNo, pSo, forL_nil, gApp, gParO, List.not_mem_nil, List.not_mem_nil])
local macro_rules | `(tactic| walk_at "evs") => `(tactic| simp only [*, mOf, endF, start0, gSeq, gNop, gAsg, gRet, gRetO, gAsgO, gDrop, gIf, gOpt, gPar, gPar3, gAug, aName, asNil, asCons, aTup, aLst, setV, setO, eVar, eC, eBin, eUn, eTup, aNil, aCons, oLst, frz, eCall, oCall, avN, avK, permL, lNil, lPv, lSl, tOf, tTru, tNt, tAn, tOrr, eIf, eAn, eOr, eNt, eChain, eCallB, eIxM, gSetIx, getM, pTru, pAdd, pSub, pMul, pFdiv, pMod, pPow, pNeg, pLt, pLe, pGt, pGe, pIs, pIsNot, pAddI, pIx, pLen, pAbs, pMax2, pMin2, Res.bind_ok, Res.bind_ex, Res.bind_stuck, Res.fl_ok, Res.fl_ex, Res.fl_stuck, Res.opt_some, Res.opt_none, lowerA, PL.keyOf, getK, getAll, setAll, setK, distinct, List.map_cons, List.map_nil, List.length_cons, List.length_nil, List.replicate, List.cons_append, List.nil_append, List.append_nil, List.getElem?_cons_zero, List.getElem?_cons_succ, List.getElem?_nil, List.set_cons_zero, List.set_cons_succ, List.filterMap_cons, List.filterMap_nil, Option.bind_some, Option.map_some, Option.elim_some, if_true, if_false, Nat.reduceAdd, Nat.reduceSub, Nat.reduceEqDiff, Nat.reduceLeDiff, ↓reduceIte, Bool.false_eq_true, at0, at1, at2, at3, pEq, pNe, eqB_int, Option.some.injEq, decide_true, decide_false, not_true_eq_false, not_false_eq_true, Bool.and_true, ne_eq, reduceCtorEq, Bool.true_eq_false, Bool.not_true, Bool.not_false, frz, noEx, wipeS, wipeR, backS, backR, keepV, oComp, gFor, iAny, iRange1, iRange2, iRange3, iRangeW1, iRangeW2, eCallQ, oRgW2, oRgW, pInt1, iEnumQ, eDct, iTxt, eFld, eMake, gSetFld, eFldM, eTupV, putP, eLenSet, gFrz, Nat.reduceLT, oRg2, oRg1, oRg, tYesD, pIn, pNotIn, eSl, pNo, pSo, forL_nil, gApp, gParO, List.not_mem_nil, List.not_mem_nil, eq_self, not_true_eq_false, not_false_eq_true, ix30, ix31, ix32, Bool.and_self, and_self, and_true, true_and])
theorem e_is_put_stm (l h s r a b c d n : Int) (z : Str) (h0 : ArrN z) (hg : isGuard l h s r = true) (hn : h ≤ n) : m_is_statement [.val (.tup [.str "put", gt l h s r, .str z, .int a, .int b, .int c, .int d]), .val (.int n)] [] = .ok (.bl true) [] := by
  have c0 := e_is_array h0
  have g := e_is_guard l h s r
  rw [hg] at g
  have dn : decide (h ≤ n) = true := decide_eq_true hn
  have ec := compL_map (vs := [2]) (a := l_is_statement_1c) (ft := l_is_statement_1d) (fe := l_is_statement_1e) (s := ⟨[some (.val (.tup [.str "put", gt l h s r, .str z, .int a, .int b, .int c, .int d])), some (.val (.int n)), none], []⟩)
    (fun _ => some (.bl true)) [.int 2] [] (by simp) (by
      intro p hp
      simp only [List.mem_cons, List.not_mem_nil, or_false] at hp
      rcases hp with rfl
      · refine ⟨_, rfl, .inl ⟨_, .bl true, ⟨[some (.val (.tup [.str "put", gt l h s r, .str z, .int a, .int b, .int c, .int d])), some (.val (.int n)), some (.val (.int 2))], []⟩, rfl, ?_, rfl, rfl⟩⟩
        have ix : eBin pIx (eVar 0) (eVar 2) ⟨[some (.val (.tup [.str "put", gt l h s r, .str z, .int a, .int b, .int c, .int d])), some (.val (.int n)), some (.val (.int 2))], []⟩ = .ok (.str z) ⟨[some (.val (.tup [.str "put", gt l h s r, .str z, .int a, .int b, .int c, .int d])), some (.val (.int n)), some (.val (.int 2))], []⟩ := rfl
        show l_is_statement_1e ⟨[some (.val (.tup [.str "put", gt l h s r, .str z, .int a, .int b, .int c, .int d])), some (.val (.int n)), some (.val (.int 2))], []⟩ = _
        unfold l_is_statement_1e
        simp only [eCall, avN, lPv, lNil, ix, Res.bind_ok, List.length_cons, List.length_nil, Nat.reduceAdd, if_true, lowerA, distinct, getAll, setAll, c0]
      )
  have ef : ([.int 2] : List PV).filterMap (fun _ => some (PV.bl true)) = [PV.bl true] := rfl
  rw [ef, List.nil_append] at ec
  have e0 : eBin pIx (eVar 0) (eC (.int 0)) ⟨[some (.val (.tup [.str "put", gt l h s r, .str z, .int a, .int b, .int c, .int d])), some (.val (.int n)), none], []⟩ = .ok (.str "put") ⟨[some (.val (.tup [.str "put", gt l h s r, .str z, .int a, .int b, .int c, .int d])), some (.val (.int n)), none], []⟩ := rfl
  have t1 : q_is_statement_1 ⟨[some (.val (.tup [.str "put", gt l h s r, .str z, .int a, .int b, .int c, .int d])), some (.val (.int n)), none], []⟩ = .nx ⟨[some (.val (.tup [.str "put", gt l h s r, .str z, .int a, .int b, .int c, .int d])), some (.val (.int n)), none], []⟩ := by
    have en := eqB_int 7 7
    rw [beq_self_eq_true] at en
    have ed : eDct [("put", .int 7), ("move", .int 9), ("sum", .int 11)] (eBin pIx (eVar 0) (eC (.int 0))) ⟨[some (.val (.tup [.str "put", gt l h s r, .str z, .int a, .int b, .int c, .int d])), some (.val (.int n)), none], []⟩ = .ok (.int 7) ⟨[some (.val (.tup [.str "put", gt l h s r, .str z, .int a, .int b, .int c, .int d])), some (.val (.int n)), none], []⟩ := rfl
    have el : eCallB pLen (aCons (eVar 0) aNil) ⟨[some (.val (.tup [.str "put", gt l h s r, .str z, .int a, .int b, .int c, .int d])), some (.val (.int n)), none], []⟩ = .ok (.int 7) ⟨[some (.val (.tup [.str "put", gt l h s r, .str z, .int a, .int b, .int c, .int d])), some (.val (.int n)), none], []⟩ := rfl
    have e5 : eBin pNe (eDct [("put", .int 7), ("move", .int 9), ("sum", .int 11)] (eBin pIx (eVar 0) (eC (.int 0)))) (eCallB pLen (aCons (eVar 0) aNil)) ⟨[some (.val (.tup [.str "put", gt l h s r, .str z, .int a, .int b, .int c, .int d])), some (.val (.int n)), none], []⟩ = .ok (.bl false) ⟨[some (.val (.tup [.str "put", gt l h s r, .str z, .int a, .int b, .int c, .int d])), some (.val (.int n)), none], []⟩ := by
      show Res.opt ⟨[some (.val (.tup [.str "put", gt l h s r, .str z, .int a, .int b, .int c, .int d])), some (.val (.int n)), none], []⟩ (pNe (.int 7) (.int 7)) = _
      unfold pNe
      rw [en]; rfl
    unfold q_is_statement_1
    simp only [gIf, tOf, e5, Res.bind_ok, Res.fl, Bool.false_eq_true, if_false]
    rfl
  have t2 : q_is_statement_2 ⟨[some (.val (.tup [.str "put", gt l h s r, .str z, .int a, .int b, .int c, .int d])), some (.val (.int n)), none], []⟩ = .nx ⟨[some (.val (.tup [.str "put", gt l h s r, .str z, .int a, .int b, .int c, .int d])), some (.val (.int n)), none], []⟩ := by
    have ed : iAny (eDct [("put", .tup [.int 2]), ("move", .tup [.int 2, .int 5]), ("sum", .tup [.int 2, .int 5, .int 8])] (eBin pIx (eVar 0) (eC (.int 0)))) ⟨[some (.val (.tup [.str "put", gt l h s r, .str z, .int a, .int b, .int c, .int d])), some (.val (.int n)), none], []⟩ = .ok [.int 2] ⟨[some (.val (.tup [.str "put", gt l h s r, .str z, .int a, .int b, .int c, .int d])), some (.val (.int n)), none], []⟩ := rfl
    have eo : frz (oComp [2] (iAny (eDct [("put", .tup [.int 2]), ("move", .tup [.int 2, .int 5]), ("sum", .tup [.int 2, .int 5, .int 8])] (eBin pIx (eVar 0) (eC (.int 0))))) l_is_statement_1c l_is_statement_1d l_is_statement_1e) ⟨[some (.val (.tup [.str "put", gt l h s r, .str z, .int a, .int b, .int c, .int d])), some (.val (.int n)), none], []⟩ = .ok (.lst [.bl true]) ⟨[some (.val (.tup [.str "put", gt l h s r, .str z, .int a, .int b, .int c, .int d])), some (.val (.int n)), none], []⟩ := by
      unfold frz oComp
      rw [ed]
      simp only [Res.bind_ok]
      rw [show wipeS [2] ⟨[some (.val (.tup [.str "put", gt l h s r, .str z, .int a, .int b, .int c, .int d])), some (.val (.int n)), none], []⟩ = ⟨[some (.val (.tup [.str "put", gt l h s r, .str z, .int a, .int b, .int c, .int d])), some (.val (.int n)), none], []⟩ from rfl]
      have e' : compL [2] l_is_statement_1c l_is_statement_1d l_is_statement_1e [.int 2] [] ⟨[some (.val (.tup [.str "put", gt l h s r, .str z, .int a, .int b, .int c, .int d])), some (.val (.int n)), none], []⟩ = .ok [.bl true] ⟨[some (.val (.tup [.str "put", gt l h s r, .str z, .int a, .int b, .int c, .int d])), some (.val (.int n)), none], []⟩ := ec
      rw [e']
      rfl
    unfold q_is_statement_2
    simp only [gIf, tNt, tTru, eCallB, aCons, aNil, eo, Res.bind_ok]
    rfl
  have t3 : q_is_statement_3 ⟨[some (.val (.tup [.str "put", gt l h s r, .str z, .int a, .int b, .int c, .int d])), some (.val (.int n)), none], []⟩ = .rt (.bl true) ⟨[some (.val (.tup [.str "put", gt l h s r, .str z, .int a, .int b, .int c, .int d])), some (.val (.int n)), none], []⟩ := by
    have ix : eBin pIx (eVar 0) (eC (.int 1)) ⟨[some (.val (.tup [.str "put", gt l h s r, .str z, .int a, .int b, .int c, .int d])), some (.val (.int n)), none], []⟩ = .ok (gt l h s r) ⟨[some (.val (.tup [.str "put", gt l h s r, .str z, .int a, .int b, .int c, .int d])), some (.val (.int n)), none], []⟩ := rfl
    have ig : eCall PM.m_is_guard (avN 1 (lPv (eBin pIx (eVar 0) (eC (.int 1))) lNil)) ⟨[some (.val (.tup [.str "put", gt l h s r, .str z, .int a, .int b, .int c, .int d])), some (.val (.int n)), none], []⟩ = .ok (.bl true) ⟨[some (.val (.tup [.str "put", gt l h s r, .str z, .int a, .int b, .int c, .int d])), some (.val (.int n)), none], []⟩ := by
      simp only [eCall, avN, lPv, lNil, ix, Res.bind_ok, List.length_cons, List.length_nil, Nat.reduceAdd, if_true, lowerA, distinct, getAll, setAll, g]
    have il : eBin pLe (eBin pIx (eBin pIx (eVar 0) (eC (.int 1))) (eC (.int 1))) (eVar 1) ⟨[some (.val (.tup [.str "put", gt l h s r, .str z, .int a, .int b, .int c, .int d])), some (.val (.int n)), none], []⟩ = .ok (.bl true) ⟨[some (.val (.tup [.str "put", gt l h s r, .str z, .int a, .int b, .int c, .int d])), some (.val (.int n)), none], []⟩ := by
      show Res.ok (PV.bl (decide (h ≤ n))) _ = _
      rw [dn]
    unfold q_is_statement_3 gRet eAn
    rw [ig]
    simp only [Res.bind_ok, pTru, il]
    rfl
  unfold m_is_statement
  rw [g_is_statement_eq]
  simp only [mOf, start0, List.map_cons, List.map_nil, List.length_cons, List.length_nil, Nat.reduceAdd, Nat.reduceSub, List.replicate, List.cons_append, List.nil_append]
  rw [seq_nx t1, seq_nx t2, seq_rt t3]
  rfl
theorem e_is_move_stm (l h s r a b c d e n : Int) (z z2 : Str) (h0 : ArrN z) (h1 : ArrN z2) (hg : isGuard l h s r = true) (hn : h ≤ n) : m_is_statement [.val (.tup [.str "move", gt l h s r, .str z, .int a, .int b, .str z2, .int c, .int d, .int e]), .val (.int n)] [] = .ok (.bl true) [] := by
  have c0 := e_is_array h0
  have c1 := e_is_array h1
  have g := e_is_guard l h s r
  rw [hg] at g
  have dn : decide (h ≤ n) = true := decide_eq_true hn
  have ec := compL_map (vs := [2]) (a := l_is_statement_1c) (ft := l_is_statement_1d) (fe := l_is_statement_1e) (s := ⟨[some (.val (.tup [.str "move", gt l h s r, .str z, .int a, .int b, .str z2, .int c, .int d, .int e])), some (.val (.int n)), none], []⟩)
    (fun _ => some (.bl true)) [.int 2, .int 5] [] (by simp) (by
      intro p hp
      simp only [List.mem_cons, List.not_mem_nil, or_false] at hp
      rcases hp with rfl | rfl
      · refine ⟨_, rfl, .inl ⟨_, .bl true, ⟨[some (.val (.tup [.str "move", gt l h s r, .str z, .int a, .int b, .str z2, .int c, .int d, .int e])), some (.val (.int n)), some (.val (.int 2))], []⟩, rfl, ?_, rfl, rfl⟩⟩
        have ix : eBin pIx (eVar 0) (eVar 2) ⟨[some (.val (.tup [.str "move", gt l h s r, .str z, .int a, .int b, .str z2, .int c, .int d, .int e])), some (.val (.int n)), some (.val (.int 2))], []⟩ = .ok (.str z) ⟨[some (.val (.tup [.str "move", gt l h s r, .str z, .int a, .int b, .str z2, .int c, .int d, .int e])), some (.val (.int n)), some (.val (.int 2))], []⟩ := rfl
        show l_is_statement_1e ⟨[some (.val (.tup [.str "move", gt l h s r, .str z, .int a, .int b, .str z2, .int c, .int d, .int e])), some (.val (.int n)), some (.val (.int 2))], []⟩ = _
        unfold l_is_statement_1e
        simp only [eCall, avN, lPv, lNil, ix, Res.bind_ok, List.length_cons, List.length_nil, Nat.reduceAdd, if_true, lowerA, distinct, getAll, setAll, c0]
      · refine ⟨_, rfl, .inl ⟨_, .bl true, ⟨[some (.val (.tup [.str "move", gt l h s r, .str z, .int a, .int b, .str z2, .int c, .int d, .int e])), some (.val (.int n)), some (.val (.int 5))], []⟩, rfl, ?_, rfl, rfl⟩⟩
        have ix : eBin pIx (eVar 0) (eVar 2) ⟨[some (.val (.tup [.str "move", gt l h s r, .str z, .int a, .int b, .str z2, .int c, .int d, .int e])), some (.val (.int n)), some (.val (.int 5))], []⟩ = .ok (.str z2) ⟨[some (.val (.tup [.str "move", gt l h s r, .str z, .int a, .int b, .str z2, .int c, .int d, .int e])), some (.val (.int n)), some (.val (.int 5))], []⟩ := rfl
        show l_is_statement_1e ⟨[some (.val (.tup [.str "move", gt l h s r, .str z, .int a, .int b, .str z2, .int c, .int d, .int e])), some (.val (.int n)), some (.val (.int 5))], []⟩ = _
        unfold l_is_statement_1e
        simp only [eCall, avN, lPv, lNil, ix, Res.bind_ok, List.length_cons, List.length_nil, Nat.reduceAdd, if_true, lowerA, distinct, getAll, setAll, c1]
      )
  have ef : ([.int 2, .int 5] : List PV).filterMap (fun _ => some (PV.bl true)) = [PV.bl true, PV.bl true] := rfl
  rw [ef, List.nil_append] at ec
  have e0 : eBin pIx (eVar 0) (eC (.int 0)) ⟨[some (.val (.tup [.str "move", gt l h s r, .str z, .int a, .int b, .str z2, .int c, .int d, .int e])), some (.val (.int n)), none], []⟩ = .ok (.str "move") ⟨[some (.val (.tup [.str "move", gt l h s r, .str z, .int a, .int b, .str z2, .int c, .int d, .int e])), some (.val (.int n)), none], []⟩ := rfl
  have t1 : q_is_statement_1 ⟨[some (.val (.tup [.str "move", gt l h s r, .str z, .int a, .int b, .str z2, .int c, .int d, .int e])), some (.val (.int n)), none], []⟩ = .nx ⟨[some (.val (.tup [.str "move", gt l h s r, .str z, .int a, .int b, .str z2, .int c, .int d, .int e])), some (.val (.int n)), none], []⟩ := by
    have en := eqB_int 9 9
    rw [beq_self_eq_true] at en
    have ed : eDct [("put", .int 7), ("move", .int 9), ("sum", .int 11)] (eBin pIx (eVar 0) (eC (.int 0))) ⟨[some (.val (.tup [.str "move", gt l h s r, .str z, .int a, .int b, .str z2, .int c, .int d, .int e])), some (.val (.int n)), none], []⟩ = .ok (.int 9) ⟨[some (.val (.tup [.str "move", gt l h s r, .str z, .int a, .int b, .str z2, .int c, .int d, .int e])), some (.val (.int n)), none], []⟩ := rfl
    have el : eCallB pLen (aCons (eVar 0) aNil) ⟨[some (.val (.tup [.str "move", gt l h s r, .str z, .int a, .int b, .str z2, .int c, .int d, .int e])), some (.val (.int n)), none], []⟩ = .ok (.int 9) ⟨[some (.val (.tup [.str "move", gt l h s r, .str z, .int a, .int b, .str z2, .int c, .int d, .int e])), some (.val (.int n)), none], []⟩ := rfl
    have e5 : eBin pNe (eDct [("put", .int 7), ("move", .int 9), ("sum", .int 11)] (eBin pIx (eVar 0) (eC (.int 0)))) (eCallB pLen (aCons (eVar 0) aNil)) ⟨[some (.val (.tup [.str "move", gt l h s r, .str z, .int a, .int b, .str z2, .int c, .int d, .int e])), some (.val (.int n)), none], []⟩ = .ok (.bl false) ⟨[some (.val (.tup [.str "move", gt l h s r, .str z, .int a, .int b, .str z2, .int c, .int d, .int e])), some (.val (.int n)), none], []⟩ := by
      show Res.opt ⟨[some (.val (.tup [.str "move", gt l h s r, .str z, .int a, .int b, .str z2, .int c, .int d, .int e])), some (.val (.int n)), none], []⟩ (pNe (.int 9) (.int 9)) = _
      unfold pNe
      rw [en]; rfl
    unfold q_is_statement_1
    simp only [gIf, tOf, e5, Res.bind_ok, Res.fl, Bool.false_eq_true, if_false]
    rfl
  have t2 : q_is_statement_2 ⟨[some (.val (.tup [.str "move", gt l h s r, .str z, .int a, .int b, .str z2, .int c, .int d, .int e])), some (.val (.int n)), none], []⟩ = .nx ⟨[some (.val (.tup [.str "move", gt l h s r, .str z, .int a, .int b, .str z2, .int c, .int d, .int e])), some (.val (.int n)), none], []⟩ := by
    have ed : iAny (eDct [("put", .tup [.int 2]), ("move", .tup [.int 2, .int 5]), ("sum", .tup [.int 2, .int 5, .int 8])] (eBin pIx (eVar 0) (eC (.int 0)))) ⟨[some (.val (.tup [.str "move", gt l h s r, .str z, .int a, .int b, .str z2, .int c, .int d, .int e])), some (.val (.int n)), none], []⟩ = .ok [.int 2, .int 5] ⟨[some (.val (.tup [.str "move", gt l h s r, .str z, .int a, .int b, .str z2, .int c, .int d, .int e])), some (.val (.int n)), none], []⟩ := rfl
    have eo : frz (oComp [2] (iAny (eDct [("put", .tup [.int 2]), ("move", .tup [.int 2, .int 5]), ("sum", .tup [.int 2, .int 5, .int 8])] (eBin pIx (eVar 0) (eC (.int 0))))) l_is_statement_1c l_is_statement_1d l_is_statement_1e) ⟨[some (.val (.tup [.str "move", gt l h s r, .str z, .int a, .int b, .str z2, .int c, .int d, .int e])), some (.val (.int n)), none], []⟩ = .ok (.lst [.bl true, .bl true]) ⟨[some (.val (.tup [.str "move", gt l h s r, .str z, .int a, .int b, .str z2, .int c, .int d, .int e])), some (.val (.int n)), none], []⟩ := by
      unfold frz oComp
      rw [ed]
      simp only [Res.bind_ok]
      rw [show wipeS [2] ⟨[some (.val (.tup [.str "move", gt l h s r, .str z, .int a, .int b, .str z2, .int c, .int d, .int e])), some (.val (.int n)), none], []⟩ = ⟨[some (.val (.tup [.str "move", gt l h s r, .str z, .int a, .int b, .str z2, .int c, .int d, .int e])), some (.val (.int n)), none], []⟩ from rfl]
      have e' : compL [2] l_is_statement_1c l_is_statement_1d l_is_statement_1e [.int 2, .int 5] [] ⟨[some (.val (.tup [.str "move", gt l h s r, .str z, .int a, .int b, .str z2, .int c, .int d, .int e])), some (.val (.int n)), none], []⟩ = .ok [.bl true, .bl true] ⟨[some (.val (.tup [.str "move", gt l h s r, .str z, .int a, .int b, .str z2, .int c, .int d, .int e])), some (.val (.int n)), none], []⟩ := ec
      rw [e']
      rfl
    unfold q_is_statement_2
    simp only [gIf, tNt, tTru, eCallB, aCons, aNil, eo, Res.bind_ok]
    rfl
  have t3 : q_is_statement_3 ⟨[some (.val (.tup [.str "move", gt l h s r, .str z, .int a, .int b, .str z2, .int c, .int d, .int e])), some (.val (.int n)), none], []⟩ = .rt (.bl true) ⟨[some (.val (.tup [.str "move", gt l h s r, .str z, .int a, .int b, .str z2, .int c, .int d, .int e])), some (.val (.int n)), none], []⟩ := by
    have ix : eBin pIx (eVar 0) (eC (.int 1)) ⟨[some (.val (.tup [.str "move", gt l h s r, .str z, .int a, .int b, .str z2, .int c, .int d, .int e])), some (.val (.int n)), none], []⟩ = .ok (gt l h s r) ⟨[some (.val (.tup [.str "move", gt l h s r, .str z, .int a, .int b, .str z2, .int c, .int d, .int e])), some (.val (.int n)), none], []⟩ := rfl
    have ig : eCall PM.m_is_guard (avN 1 (lPv (eBin pIx (eVar 0) (eC (.int 1))) lNil)) ⟨[some (.val (.tup [.str "move", gt l h s r, .str z, .int a, .int b, .str z2, .int c, .int d, .int e])), some (.val (.int n)), none], []⟩ = .ok (.bl true) ⟨[some (.val (.tup [.str "move", gt l h s r, .str z, .int a, .int b, .str z2, .int c, .int d, .int e])), some (.val (.int n)), none], []⟩ := by
      simp only [eCall, avN, lPv, lNil, ix, Res.bind_ok, List.length_cons, List.length_nil, Nat.reduceAdd, if_true, lowerA, distinct, getAll, setAll, g]
    have il : eBin pLe (eBin pIx (eBin pIx (eVar 0) (eC (.int 1))) (eC (.int 1))) (eVar 1) ⟨[some (.val (.tup [.str "move", gt l h s r, .str z, .int a, .int b, .str z2, .int c, .int d, .int e])), some (.val (.int n)), none], []⟩ = .ok (.bl true) ⟨[some (.val (.tup [.str "move", gt l h s r, .str z, .int a, .int b, .str z2, .int c, .int d, .int e])), some (.val (.int n)), none], []⟩ := by
      show Res.ok (PV.bl (decide (h ≤ n))) _ = _
      rw [dn]
    unfold q_is_statement_3 gRet eAn
    rw [ig]
    simp only [Res.bind_ok, pTru, il]
    rfl
  unfold m_is_statement
  rw [g_is_statement_eq]
  simp only [mOf, start0, List.map_cons, List.map_nil, List.length_cons, List.length_nil, Nat.reduceAdd, Nat.reduceSub, List.replicate, List.cons_append, List.nil_append]
  rw [seq_nx t1, seq_nx t2, seq_rt t3]
  rfl
theorem e_is_sum_stm (l h s r a b c d e f n : Int) (z z2 z3 : Str) (h0 : ArrN z) (h1 : ArrN z2) (h2 : ArrN z3) (hg : isGuard l h s r = true) (hn : h ≤ n) : m_is_statement [.val (.tup [.str "sum", gt l h s r, .str z, .int a, .int b, .str z2, .int c, .int d, .str z3, .int e, .int f]), .val (.int n)] [] = .ok (.bl true) [] := by
  have c0 := e_is_array h0
  have c1 := e_is_array h1
  have c2 := e_is_array h2
  have g := e_is_guard l h s r
  rw [hg] at g
  have dn : decide (h ≤ n) = true := decide_eq_true hn
  have ec := compL_map (vs := [2]) (a := l_is_statement_1c) (ft := l_is_statement_1d) (fe := l_is_statement_1e) (s := ⟨[some (.val (.tup [.str "sum", gt l h s r, .str z, .int a, .int b, .str z2, .int c, .int d, .str z3, .int e, .int f])), some (.val (.int n)), none], []⟩)
    (fun _ => some (.bl true)) [.int 2, .int 5, .int 8] [] (by simp) (by
      intro p hp
      simp only [List.mem_cons, List.not_mem_nil, or_false] at hp
      rcases hp with rfl | rfl | rfl
      · refine ⟨_, rfl, .inl ⟨_, .bl true, ⟨[some (.val (.tup [.str "sum", gt l h s r, .str z, .int a, .int b, .str z2, .int c, .int d, .str z3, .int e, .int f])), some (.val (.int n)), some (.val (.int 2))], []⟩, rfl, ?_, rfl, rfl⟩⟩
        have ix : eBin pIx (eVar 0) (eVar 2) ⟨[some (.val (.tup [.str "sum", gt l h s r, .str z, .int a, .int b, .str z2, .int c, .int d, .str z3, .int e, .int f])), some (.val (.int n)), some (.val (.int 2))], []⟩ = .ok (.str z) ⟨[some (.val (.tup [.str "sum", gt l h s r, .str z, .int a, .int b, .str z2, .int c, .int d, .str z3, .int e, .int f])), some (.val (.int n)), some (.val (.int 2))], []⟩ := rfl
        show l_is_statement_1e ⟨[some (.val (.tup [.str "sum", gt l h s r, .str z, .int a, .int b, .str z2, .int c, .int d, .str z3, .int e, .int f])), some (.val (.int n)), some (.val (.int 2))], []⟩ = _
        unfold l_is_statement_1e
        simp only [eCall, avN, lPv, lNil, ix, Res.bind_ok, List.length_cons, List.length_nil, Nat.reduceAdd, if_true, lowerA, distinct, getAll, setAll, c0]
      · refine ⟨_, rfl, .inl ⟨_, .bl true, ⟨[some (.val (.tup [.str "sum", gt l h s r, .str z, .int a, .int b, .str z2, .int c, .int d, .str z3, .int e, .int f])), some (.val (.int n)), some (.val (.int 5))], []⟩, rfl, ?_, rfl, rfl⟩⟩
        have ix : eBin pIx (eVar 0) (eVar 2) ⟨[some (.val (.tup [.str "sum", gt l h s r, .str z, .int a, .int b, .str z2, .int c, .int d, .str z3, .int e, .int f])), some (.val (.int n)), some (.val (.int 5))], []⟩ = .ok (.str z2) ⟨[some (.val (.tup [.str "sum", gt l h s r, .str z, .int a, .int b, .str z2, .int c, .int d, .str z3, .int e, .int f])), some (.val (.int n)), some (.val (.int 5))], []⟩ := rfl
        show l_is_statement_1e ⟨[some (.val (.tup [.str "sum", gt l h s r, .str z, .int a, .int b, .str z2, .int c, .int d, .str z3, .int e, .int f])), some (.val (.int n)), some (.val (.int 5))], []⟩ = _
        unfold l_is_statement_1e
        simp only [eCall, avN, lPv, lNil, ix, Res.bind_ok, List.length_cons, List.length_nil, Nat.reduceAdd, if_true, lowerA, distinct, getAll, setAll, c1]
      · refine ⟨_, rfl, .inl ⟨_, .bl true, ⟨[some (.val (.tup [.str "sum", gt l h s r, .str z, .int a, .int b, .str z2, .int c, .int d, .str z3, .int e, .int f])), some (.val (.int n)), some (.val (.int 8))], []⟩, rfl, ?_, rfl, rfl⟩⟩
        have ix : eBin pIx (eVar 0) (eVar 2) ⟨[some (.val (.tup [.str "sum", gt l h s r, .str z, .int a, .int b, .str z2, .int c, .int d, .str z3, .int e, .int f])), some (.val (.int n)), some (.val (.int 8))], []⟩ = .ok (.str z3) ⟨[some (.val (.tup [.str "sum", gt l h s r, .str z, .int a, .int b, .str z2, .int c, .int d, .str z3, .int e, .int f])), some (.val (.int n)), some (.val (.int 8))], []⟩ := rfl
        show l_is_statement_1e ⟨[some (.val (.tup [.str "sum", gt l h s r, .str z, .int a, .int b, .str z2, .int c, .int d, .str z3, .int e, .int f])), some (.val (.int n)), some (.val (.int 8))], []⟩ = _
        unfold l_is_statement_1e
        simp only [eCall, avN, lPv, lNil, ix, Res.bind_ok, List.length_cons, List.length_nil, Nat.reduceAdd, if_true, lowerA, distinct, getAll, setAll, c2]
      )
  have ef : ([.int 2, .int 5, .int 8] : List PV).filterMap (fun _ => some (PV.bl true)) = [PV.bl true, PV.bl true, PV.bl true] := rfl
  rw [ef, List.nil_append] at ec
  have e0 : eBin pIx (eVar 0) (eC (.int 0)) ⟨[some (.val (.tup [.str "sum", gt l h s r, .str z, .int a, .int b, .str z2, .int c, .int d, .str z3, .int e, .int f])), some (.val (.int n)), none], []⟩ = .ok (.str "sum") ⟨[some (.val (.tup [.str "sum", gt l h s r, .str z, .int a, .int b, .str z2, .int c, .int d, .str z3, .int e, .int f])), some (.val (.int n)), none], []⟩ := rfl
  have t1 : q_is_statement_1 ⟨[some (.val (.tup [.str "sum", gt l h s r, .str z, .int a, .int b, .str z2, .int c, .int d, .str z3, .int e, .int f])), some (.val (.int n)), none], []⟩ = .nx ⟨[some (.val (.tup [.str "sum", gt l h s r, .str z, .int a, .int b, .str z2, .int c, .int d, .str z3, .int e, .int f])), some (.val (.int n)), none], []⟩ := by
    have en := eqB_int 11 11
    rw [beq_self_eq_true] at en
    have ed : eDct [("put", .int 7), ("move", .int 9), ("sum", .int 11)] (eBin pIx (eVar 0) (eC (.int 0))) ⟨[some (.val (.tup [.str "sum", gt l h s r, .str z, .int a, .int b, .str z2, .int c, .int d, .str z3, .int e, .int f])), some (.val (.int n)), none], []⟩ = .ok (.int 11) ⟨[some (.val (.tup [.str "sum", gt l h s r, .str z, .int a, .int b, .str z2, .int c, .int d, .str z3, .int e, .int f])), some (.val (.int n)), none], []⟩ := rfl
    have el : eCallB pLen (aCons (eVar 0) aNil) ⟨[some (.val (.tup [.str "sum", gt l h s r, .str z, .int a, .int b, .str z2, .int c, .int d, .str z3, .int e, .int f])), some (.val (.int n)), none], []⟩ = .ok (.int 11) ⟨[some (.val (.tup [.str "sum", gt l h s r, .str z, .int a, .int b, .str z2, .int c, .int d, .str z3, .int e, .int f])), some (.val (.int n)), none], []⟩ := rfl
    have e5 : eBin pNe (eDct [("put", .int 7), ("move", .int 9), ("sum", .int 11)] (eBin pIx (eVar 0) (eC (.int 0)))) (eCallB pLen (aCons (eVar 0) aNil)) ⟨[some (.val (.tup [.str "sum", gt l h s r, .str z, .int a, .int b, .str z2, .int c, .int d, .str z3, .int e, .int f])), some (.val (.int n)), none], []⟩ = .ok (.bl false) ⟨[some (.val (.tup [.str "sum", gt l h s r, .str z, .int a, .int b, .str z2, .int c, .int d, .str z3, .int e, .int f])), some (.val (.int n)), none], []⟩ := by
      show Res.opt ⟨[some (.val (.tup [.str "sum", gt l h s r, .str z, .int a, .int b, .str z2, .int c, .int d, .str z3, .int e, .int f])), some (.val (.int n)), none], []⟩ (pNe (.int 11) (.int 11)) = _
      unfold pNe
      rw [en]; rfl
    unfold q_is_statement_1
    simp only [gIf, tOf, e5, Res.bind_ok, Res.fl, Bool.false_eq_true, if_false]
    rfl
  have t2 : q_is_statement_2 ⟨[some (.val (.tup [.str "sum", gt l h s r, .str z, .int a, .int b, .str z2, .int c, .int d, .str z3, .int e, .int f])), some (.val (.int n)), none], []⟩ = .nx ⟨[some (.val (.tup [.str "sum", gt l h s r, .str z, .int a, .int b, .str z2, .int c, .int d, .str z3, .int e, .int f])), some (.val (.int n)), none], []⟩ := by
    have ed : iAny (eDct [("put", .tup [.int 2]), ("move", .tup [.int 2, .int 5]), ("sum", .tup [.int 2, .int 5, .int 8])] (eBin pIx (eVar 0) (eC (.int 0)))) ⟨[some (.val (.tup [.str "sum", gt l h s r, .str z, .int a, .int b, .str z2, .int c, .int d, .str z3, .int e, .int f])), some (.val (.int n)), none], []⟩ = .ok [.int 2, .int 5, .int 8] ⟨[some (.val (.tup [.str "sum", gt l h s r, .str z, .int a, .int b, .str z2, .int c, .int d, .str z3, .int e, .int f])), some (.val (.int n)), none], []⟩ := rfl
    have eo : frz (oComp [2] (iAny (eDct [("put", .tup [.int 2]), ("move", .tup [.int 2, .int 5]), ("sum", .tup [.int 2, .int 5, .int 8])] (eBin pIx (eVar 0) (eC (.int 0))))) l_is_statement_1c l_is_statement_1d l_is_statement_1e) ⟨[some (.val (.tup [.str "sum", gt l h s r, .str z, .int a, .int b, .str z2, .int c, .int d, .str z3, .int e, .int f])), some (.val (.int n)), none], []⟩ = .ok (.lst [.bl true, .bl true, .bl true]) ⟨[some (.val (.tup [.str "sum", gt l h s r, .str z, .int a, .int b, .str z2, .int c, .int d, .str z3, .int e, .int f])), some (.val (.int n)), none], []⟩ := by
      unfold frz oComp
      rw [ed]
      simp only [Res.bind_ok]
      rw [show wipeS [2] ⟨[some (.val (.tup [.str "sum", gt l h s r, .str z, .int a, .int b, .str z2, .int c, .int d, .str z3, .int e, .int f])), some (.val (.int n)), none], []⟩ = ⟨[some (.val (.tup [.str "sum", gt l h s r, .str z, .int a, .int b, .str z2, .int c, .int d, .str z3, .int e, .int f])), some (.val (.int n)), none], []⟩ from rfl]
      have e' : compL [2] l_is_statement_1c l_is_statement_1d l_is_statement_1e [.int 2, .int 5, .int 8] [] ⟨[some (.val (.tup [.str "sum", gt l h s r, .str z, .int a, .int b, .str z2, .int c, .int d, .str z3, .int e, .int f])), some (.val (.int n)), none], []⟩ = .ok [.bl true, .bl true, .bl true] ⟨[some (.val (.tup [.str "sum", gt l h s r, .str z, .int a, .int b, .str z2, .int c, .int d, .str z3, .int e, .int f])), some (.val (.int n)), none], []⟩ := ec
      rw [e']
      rfl
    unfold q_is_statement_2
    simp only [gIf, tNt, tTru, eCallB, aCons, aNil, eo, Res.bind_ok]
    rfl
  have t3 : q_is_statement_3 ⟨[some (.val (.tup [.str "sum", gt l h s r, .str z, .int a, .int b, .str z2, .int c, .int d, .str z3, .int e, .int f])), some (.val (.int n)), none], []⟩ = .rt (.bl true) ⟨[some (.val (.tup [.str "sum", gt l h s r, .str z, .int a, .int b, .str z2, .int c, .int d, .str z3, .int e, .int f])), some (.val (.int n)), none], []⟩ := by
    have ix : eBin pIx (eVar 0) (eC (.int 1)) ⟨[some (.val (.tup [.str "sum", gt l h s r, .str z, .int a, .int b, .str z2, .int c, .int d, .str z3, .int e, .int f])), some (.val (.int n)), none], []⟩ = .ok (gt l h s r) ⟨[some (.val (.tup [.str "sum", gt l h s r, .str z, .int a, .int b, .str z2, .int c, .int d, .str z3, .int e, .int f])), some (.val (.int n)), none], []⟩ := rfl
    have ig : eCall PM.m_is_guard (avN 1 (lPv (eBin pIx (eVar 0) (eC (.int 1))) lNil)) ⟨[some (.val (.tup [.str "sum", gt l h s r, .str z, .int a, .int b, .str z2, .int c, .int d, .str z3, .int e, .int f])), some (.val (.int n)), none], []⟩ = .ok (.bl true) ⟨[some (.val (.tup [.str "sum", gt l h s r, .str z, .int a, .int b, .str z2, .int c, .int d, .str z3, .int e, .int f])), some (.val (.int n)), none], []⟩ := by
      simp only [eCall, avN, lPv, lNil, ix, Res.bind_ok, List.length_cons, List.length_nil, Nat.reduceAdd, if_true, lowerA, distinct, getAll, setAll, g]
    have il : eBin pLe (eBin pIx (eBin pIx (eVar 0) (eC (.int 1))) (eC (.int 1))) (eVar 1) ⟨[some (.val (.tup [.str "sum", gt l h s r, .str z, .int a, .int b, .str z2, .int c, .int d, .str z3, .int e, .int f])), some (.val (.int n)), none], []⟩ = .ok (.bl true) ⟨[some (.val (.tup [.str "sum", gt l h s r, .str z, .int a, .int b, .str z2, .int c, .int d, .str z3, .int e, .int f])), some (.val (.int n)), none], []⟩ := by
      show Res.ok (PV.bl (decide (h ≤ n))) _ = _
      rw [dn]
    unfold q_is_statement_3 gRet eAn
    rw [ig]
    simp only [Res.bind_ok, pTru, il]
    rfl
  unfold m_is_statement
  rw [g_is_statement_eq]
  simp only [mOf, start0, List.map_cons, List.map_nil, List.length_cons, List.length_nil, Nat.reduceAdd, Nat.reduceSub, List.replicate, List.cons_append, List.nil_append]
  rw [seq_nx t1, seq_nx t2, seq_rt t3]
  rfl
theorem e_is_stm {n : Int} {x : Stm} (o : x.ok n) : m_is_statement [.val x.pv, .val (.int n)] [] = .ok (.bl true) [] := by
  have hg : isGuard x.l x.h x.s x.r = true := guard_iff.mpr ⟨o.l0, o.lh, o.r0, o.r1⟩
  have hn := o.hn
  have hz := o.z.arr
  have k := o.k
  obtain ⟨l, h, s, r, z, a, b, k'⟩ := x
  cases k' with
  | put c d => exact e_is_put_stm l h s r a b c d n z hz hg hn
  | move z2 c d e => exact e_is_move_stm l h s r a b c d e n z z2 hz k.1.arr hg hn
  | sum z2 c d z3 e f => exact e_is_sum_stm l h s r a b c d e f n z z2 z3 hz k.1.arr k.2.2.1.arr hg hn
end PM
/-! PWK3: kernels made with barriers, mirrored, compared, looked at. -/
namespace PM
open PySem PySem.Spec PyProof.Rows L2 PL PN
local macro_rules | `(tactic| walk_at "ev") => `(tactic| try simp only [mOf, endF, start0, gSeq, gNop, gAsg, gRet, gRetO, gAsgO, gDrop, gIf, gOpt, gPar, gPar3, gAug, aName, asNil, asCons, aTup, aLst, setV, setO, eVar, eC, eBin, eUn, eTup, aNil, aCons, oLst, frz, eCall, oCall, avN, avK, permL, lNil, lPv, lSl, tOf, tTru, tNt, tAn, tOrr, eIf, eAn, eOr, eNt, eChain, eCallB, eIxM, gSetIx, getM, pTru, pAdd, pSub, pMul, pFdiv, pMod, pPow, pNeg, pLt, pLe, pGt, pGe, pIs, pIsNot, pAddI, pIx, pLen, pAbs, pMax2, pMin2, Res.bind_ok, Res.bind_ex, Res.bind_stuck, Res.fl_ok, Res.fl_ex, Res.fl_stuck, Res.opt_some, Res.opt_none, lowerA, PL.keyOf, getK, getAll, setAll, setK, distinct, List.map_cons, List.map_nil, List.length_cons, List.length_nil, List.replicate, List.cons_append, List.nil_append, List.append_nil, List.getElem?_cons_zero, List.getElem?_cons_succ, List.getElem?_nil, List.set_cons_zero, List.set_cons_succ, List.filterMap_cons, List.filterMap_nil, Option.bind_some, Option.map_some, Option.elim_some, if_true, if_false, Nat.reduceAdd, Nat.reduceSub, Nat.reduceEqDiff, Nat.reduceLeDiff, ↓reduceIte, Bool.false_eq_true, at0, at1, at2, at3, pEq, pNe, eqB_int, Option.some.injEq, decide_true, decide_false, not_true_eq_false, not_false_eq_true, Bool.and_true, ne_eq, reduceCtorEq, Bool.true_eq_false, Bool.not_true, Bool.not_false, frz, noEx, wipeS, wipeR, backS, backR, keepV, oComp, gFor, iAny, iRange1, iRange2, iRange3, iRangeW1, iRangeW2, eCallQ, oRgW2, oRgW, pInt1, iEnumQ, eDct, iTxt, eFld, eMake, gSetFld, eFldM, eTupV, putP, eLenSet, gFrz, Nat.reduceLT, oRg2, oRg1, oRg, tYesD, pIn, pNotIn, eSl, pNo, pSo, forL_nil, gApp, gParO, List.not_mem_nil, List.not_mem_nil])
local macro_rules | `(tactic| walk_at "evs") => `(tactic| simp only [*, mOf, endF, start0, gSeq, gNop, gAsg, gRet, gRetO, gAsgO, gDrop, gIf, gOpt, gPar, gPar3, gAug, aName, asNil, asCons, aTup, aLst, setV, setO, eVar, eC, eBin, eUn, eTup, aNil, aCons, oLst, frz, eCall, oCall, avN, avK, permL, lNil, lPv, lSl, tOf, tTru, tNt, tAn, tOrr, eIf, eAn, eOr, eNt, eChain, eCallB, eIxM, gSetIx, getM, pTru, pAdd, pSub, pMul, pFdiv, pMod, pPow, pNeg, pLt, pLe, pGt, pGe, pIs, pIsNot, pAddI, pIx, pLen, pAbs, pMax2, pMin2, Res.bind_ok, Res.bind_ex, Res.bind_stuck, Res.fl_ok, Res.fl_ex, Res.fl_stuck, Res.opt_some, Res.opt_none, lowerA, PL.keyOf, getK, getAll, setAll, setK, distinct, List.map_cons, List.map_nil, List.length_cons, List.length_nil, List.replicate, List.cons_append, List.nil_append, List.append_nil, List.getElem?_cons_zero, List.getElem?_cons_succ, List.getElem?_nil, List.set_cons_zero, List.set_cons_succ, List.filterMap_cons, List.filterMap_nil, Option.bind_some, Option.map_some, Option.elim_some, if_true, if_false, Nat.reduceAdd, Nat.reduceSub, Nat.reduceEqDiff, Nat.reduceLeDiff, ↓reduceIte, Bool.false_eq_true, at0, at1, at2, at3, pEq, pNe, eqB_int, Option.some.injEq, decide_true, decide_false, not_true_eq_false, not_false_eq_true, Bool.and_true, ne_eq, reduceCtorEq, Bool.true_eq_false, Bool.not_true, Bool.not_false, frz, noEx, wipeS, wipeR, backS, backR, keepV, oComp, gFor, iAny, iRange1, iRange2, iRange3, iRangeW1, iRangeW2, eCallQ, oRgW2, oRgW, pInt1, iEnumQ, eDct, iTxt, eFld, eMake, gSetFld, eFldM, eTupV, putP, eLenSet, gFrz, Nat.reduceLT, oRg2, oRg1, oRg, tYesD, pIn, pNotIn, eSl, pNo, pSo, forL_nil, gApp, gParO, List.not_mem_nil, List.not_mem_nil, eq_self, not_true_eq_false, not_false_eq_true, ix30, ix31, ix32, Bool.and_self, and_self, and_true, true_and])
/-- barriers of so many statements -/
def BarOk (k : Int) (bs : List Int) : Prop := ∀ (i : Nat) (p q : Int), (0 :: bs)[i]? = some p → bs[i]? = some q → p < q ∧ q < k
theorem enumP_at {L : List PV} {i : Nat} {p : PV} (h : (enumP L)[i]? = some p) : ∃ q, L[i]? = some q ∧ p = .tup [.int (i : Int), q] := by
  have hl : i < L.length := by
    have := (List.getElem?_eq_some_iff.mp h).1
    rwa [enumP_len] at this
  refine ⟨L[i], List.getElem?_eq_getElem hl, ?_⟩
  unfold enumP zipP at h
  rw [List.getElem?_zipWith, List.getElem?_map, List.getElem?_range hl, List.getElem?_eq_getElem hl] at h
  exact (Option.some.inj h).symm
theorem e_barriers_tup (k : Int) (bs : List Int) (h : BarOk k bs) : m_check_barriers [.val (.tup (bs.map PV.int)), .val (.int k)] [] = .ok .non [] := by
  obtain ⟨s2, e2, p, x3, x4, hp, rfl⟩ := forL_inv (a := l_check_barriers_1b) (b := l_check_barriers_1c) (fun i s => ∃ p x3 x4, (0 :: bs)[i]? = some p ∧ s = ⟨[some (.val (.tup (bs.map PV.int))), some (.val (.int k)), some (.val (.int p)), x3, x4], []⟩) (enumP (bs.map PV.int)) 0 ⟨[some (.val (.tup (bs.map PV.int))), some (.val (.int k)), some (.val (.int 0)), none, none], []⟩ ⟨0, none, none, rfl, rfl⟩ (by
    rintro i q s hq ⟨p, x3, x4, hp, rfl⟩
    obtain ⟨q', hq', rfl⟩ := enumP_at hq
    rw [List.getElem?_map] at hq'
    cases eb : bs[i]? with
    | none => rw [eb] at hq'; cases hq'
    | some b =>
      rw [eb] at hq'
      cases hq'
      rw [Nat.zero_add] at hp ⊢
      obtain ⟨c1, c2⟩ := h i p b hp eb
      refine ⟨_, rfl, ⟨[some (.val (.tup (bs.map PV.int))), some (.val (.int k)), some (.val (.int b)), some (.val (.int (i : Int))), some (.val (.int b))], []⟩, .inl ?_, b, _, _, by rw [List.getElem?_cons_succ]; exact eb, rfl⟩
      have d1 : decide (p < b) = true := decide_eq_true c1
      have d2 : decide (b < k) = true := decide_eq_true c2
      show l_check_barriers_1c ⟨[some (.val (.tup (bs.map PV.int))), some (.val (.int k)), some (.val (.int p)), some (.val (.int (i : Int))), some (.val (.int b))], []⟩ = _
      clear c1 c2 hp hq eb h
      generalize bs.map PV.int = BB at *
      unfold l_check_barriers_1c l_check_barriers_1c_s1 l_check_barriers_1c_s2
      iterate 5 (walk_at "ev"; try walk_at "evs"))
  have t1 : q_check_barriers_1 ⟨[some (.val (.tup (bs.map PV.int))), some (.val (.int k)), none, none, none], []⟩ = .nx ⟨[some (.val (.tup (bs.map PV.int))), some (.val (.int k)), some (.val (.int 0)), none, none], []⟩ := rfl
  have t2 : q_check_barriers_2 ⟨[some (.val (.tup (bs.map PV.int))), some (.val (.int k)), some (.val (.int 0)), none, none], []⟩ = .nx ⟨[some (.val (.tup (bs.map PV.int))), some (.val (.int k)), some (.val (.int p)), x3, x4], []⟩ := by
    have i : iEnumQ (aCons (eVar 0) aNil) ⟨[some (.val (.tup (bs.map PV.int))), some (.val (.int k)), some (.val (.int 0)), none, none], []⟩ = .ok (enumP (bs.map PV.int)) ⟨[some (.val (.tup (bs.map PV.int))), some (.val (.int k)), some (.val (.int 0)), none, none], []⟩ := rfl
    unfold q_check_barriers_2 gFor
    rw [i]
    exact e2
  unfold m_check_barriers
  rw [g_check_barriers_eq]
  simp only [mOf, start0, List.map_cons, List.map_nil, List.length_cons, List.length_nil, Nat.reduceAdd, Nat.reduceSub, List.replicate, List.cons_append, List.nil_append]
  rw [seq_nx t1, seq_nx t2]
  rfl
theorem e_kernel_tup (n : Int) (hn : 1 ≤ n) (sts : List PV) (bs : List Int) (hs : ∀ p ∈ sts, m_is_statement [.val p, .val (.int n)] [] = .ok (.bl true) []) (hb : BarOk sts.length bs) :
    m_Kernel___init__ [.bor 0, .val (.int n), .val (.lst sts), .val (.tup (bs.map PV.int))] [.ins "Kernel" []] = .ok .non [.ins "Kernel" [("lane_count", .int n), ("kept_statements", .tup sts), ("kept_barriers", .tup (bs.map PV.int))]] := by
  obtain ⟨s2, e2, x, y, rfl⟩ := forL_all (a := l_Kernel___init___1b) (b := l_Kernel___init___1c) (fun s => ∃ x y : Option SV, s = ⟨[some (.bor 0), some (.val (.int n)), some (.val (.lst sts)), some (.val (.tup (bs.map PV.int))), x, y], [.ins "Kernel" []]⟩) (l := enumP sts) (s := ⟨[some (.bor 0), some (.val (.int n)), some (.val (.lst sts)), some (.val (.tup (bs.map PV.int))), none, none], [.ins "Kernel" []]⟩) ⟨none, none, rfl⟩ (by
    rintro p s hp ⟨x, y, rfl⟩
    obtain ⟨i, hi⟩ := List.mem_iff_getElem?.mp hp
    obtain ⟨q, hq, rfl⟩ := enumP_at hi
    have c := hs q (List.mem_of_getElem? hq)
    refine ⟨_, rfl, ⟨[some (.bor 0), some (.val (.int n)), some (.val (.lst sts)), some (.val (.tup (bs.map PV.int))), some (.val (.int (i : Int))), some (.val (q))], [.ins "Kernel" []]⟩, .inl ?_, _, _, rfl⟩
    show l_Kernel___init___1c ⟨[some (.bor 0), some (.val (.int n)), some (.val (.lst sts)), some (.val (.tup (bs.map PV.int))), some (.val (.int (i : Int))), some (.val (q))], [.ins "Kernel" []]⟩ = _
    clear hs hp hq hn hb hi
    generalize bs.map PV.int = BB at *
    unfold l_Kernel___init___1c l_Kernel___init___1c_s1
    iterate 4 (walk_at "ev"; try walk_at "evs"))
  have k1 : decide (n < 1) = false := decide_eq_false (by omega)
  have t1 : q_Kernel___init___1 ⟨[some (.bor 0), some (.val (.int n)), some (.val (.lst sts)), some (.val (.tup (bs.map PV.int))), none, none], [.ins "Kernel" []]⟩ = .nx ⟨[some (.bor 0), some (.val (.int n)), some (.val (.lst sts)), some (.val (.tup (bs.map PV.int))), none, none], [.ins "Kernel" []]⟩ := by
    clear e2 hs hn hb
    generalize bs.map PV.int = BB at *
    unfold q_Kernel___init___1
    iterate 3 (walk_at "ev"; try walk_at "evs")
  have t2 : q_Kernel___init___2 ⟨[some (.bor 0), some (.val (.int n)), some (.val (.lst sts)), some (.val (.tup (bs.map PV.int))), none, none], [.ins "Kernel" []]⟩ = .nx ⟨[some (.bor 0), some (.val (.int n)), some (.val (.lst sts)), some (.val (.tup (bs.map PV.int))), x, y], [.ins "Kernel" []]⟩ := by
    have i : iEnumQ (aCons (eVar 2) aNil) ⟨[some (.bor 0), some (.val (.int n)), some (.val (.lst sts)), some (.val (.tup (bs.map PV.int))), none, none], [.ins "Kernel" []]⟩ = .ok (enumP sts) ⟨[some (.bor 0), some (.val (.int n)), some (.val (.lst sts)), some (.val (.tup (bs.map PV.int))), none, none], [.ins "Kernel" []]⟩ := rfl
    unfold q_Kernel___init___2 gFor
    rw [i]
    exact e2
  have t3 : q_Kernel___init___3 ⟨[some (.bor 0), some (.val (.int n)), some (.val (.lst sts)), some (.val (.tup (bs.map PV.int))), x, y], [.ins "Kernel" []]⟩ = .nx ⟨[some (.bor 0), some (.val (.int n)), some (.val (.lst sts)), some (.val (.tup (bs.map PV.int))), x, y], [.ins "Kernel" []]⟩ := by
    have c := e_barriers_tup (sts.length : Nat) bs hb
    clear hs hn k1 t1 t2 e2 hb
    generalize bs.map PV.int = BB at *
    unfold q_Kernel___init___3
    iterate 4 (walk_at "ev"; try walk_at "evs")
  have t4 : q_Kernel___init___4 ⟨[some (.bor 0), some (.val (.int n)), some (.val (.lst sts)), some (.val (.tup (bs.map PV.int))), x, y], [.ins "Kernel" []]⟩ = .nx ⟨[some (.bor 0), some (.val (.int n)), some (.val (.lst sts)), some (.val (.tup (bs.map PV.int))), x, y], [.ins "Kernel" [("lane_count", .int n)]]⟩ := rfl
  have t5 : q_Kernel___init___5 ⟨[some (.bor 0), some (.val (.int n)), some (.val (.lst sts)), some (.val (.tup (bs.map PV.int))), x, y], [.ins "Kernel" [("lane_count", .int n)]]⟩ = .nx ⟨[some (.bor 0), some (.val (.int n)), some (.val (.lst sts)), some (.val (.tup (bs.map PV.int))), x, y], [.ins "Kernel" [("lane_count", .int n), ("kept_statements", .tup sts)]]⟩ := rfl
  have t6 : q_Kernel___init___6 ⟨[some (.bor 0), some (.val (.int n)), some (.val (.lst sts)), some (.val (.tup (bs.map PV.int))), x, y], [.ins "Kernel" [("lane_count", .int n), ("kept_statements", .tup sts)]]⟩ = .nx ⟨[some (.bor 0), some (.val (.int n)), some (.val (.lst sts)), some (.val (.tup (bs.map PV.int))), x, y], [.ins "Kernel" [("lane_count", .int n), ("kept_statements", .tup sts), ("kept_barriers", .tup (bs.map PV.int))]]⟩ := rfl
  unfold m_Kernel___init__
  rw [g_Kernel___init___eq]
  simp only [mOf, start0, List.map_cons, List.map_nil, List.length_cons, List.length_nil, Nat.reduceAdd, Nat.reduceSub, List.replicate, List.cons_append, List.nil_append]
  rw [seq_nx t1, seq_nx t2, seq_nx t3, seq_nx t4, seq_nx t5, seq_nx t6]
  rfl
end PM
/-! PWK4: a kernel's properties, methods and comparisons, where it stands in a slot. -/
namespace PM
open PySem PySem.Spec PyProof.Rows L2 PL PN
theorem bar_of {k : Int} {bs : List Int} (h : bs.Pairwise (· < ·)) (h0 : ∀ b ∈ bs, 0 < b ∧ b < k) : BarOk k bs := by
  intro i p q hp hq
  have hm := h0 q (List.mem_of_getElem? hq)
  refine ⟨?_, hm.2⟩
  cases i with
  | zero => cases hp; exact hm.1
  | succ i =>
    rw [List.getElem?_cons_succ] at hp
    obtain ⟨a1, a2⟩ := List.getElem?_eq_some_iff.mp hp
    obtain ⟨b1, b2⟩ := List.getElem?_eq_some_iff.mp hq
    rw [← a2, ← b2]
    exact List.pairwise_iff_getElem.mp h i (i + 1) a1 b1 (by omega)
theorem compL_invB {vs : List Nat} {a : PV → Stt → Option Stt} {fe : Stt → Res PV} (B : Nat) (R : List PV → Stt → Prop) : ∀ (l acc : List PV) (s : Stt), acc.length + l.length ≤ 16777216 → acc.length + l.length ≤ B → R acc s →
    (∀ p acc s, acc.length < B → R acc s → ∃ s1, a p s = some s1 ∧ ∃ y s3, fe s1 = .ok y s3 ∧ R (acc ++ [y]) (wipeS vs s3)) →
    ∃ out s2, compL vs a tYesD fe l acc s = .ok out s2 ∧ R out s2 ∧ out.length = acc.length + l.length
  | [], acc, s, _, _, h0, _ => ⟨acc, s, rfl, h0, by simp⟩
  | p :: r, acc, s, hl, hB, h0, h => by
    rw [List.length_cons] at hl hB
    obtain ⟨s1, e1, y, s3, e3, h3⟩ := h p acc s (by omega) h0
    obtain ⟨out, s2, e, hR, hlen⟩ := compL_invB B R r (acc ++ [y]) (wipeS vs s3) (by rw [List.length_append, List.length_singleton]; omega) (by rw [List.length_append, List.length_singleton]; omega) h3 h
    refine ⟨out, s2, ?_, hR, by rw [hlen, List.length_append, List.length_singleton, List.length_cons]; omega⟩
    rw [compL_cons _ _ _ _ _ _ _ _ _ e1]
    simp only [tYesD, Res.bind_ok, if_true, e3]
    rw [if_pos (by omega)]
    exact e
end PM
/-! PGN: plain maths of guards that meet, of remainders, of barriers. -/
namespace PM
open PySem PySem.Spec PyProof.Rows L2 PL PN
/-- what meeting answers, by the lanes alone -/
def NF (lo hi : Int) (P : Int → Prop) (m : PV) : Prop :=
  (m = .non ∧ ∀ z, lo ≤ z → z < hi → ¬ P z) ∨
  ∃ t c, m = gt lo hi t c ∧ 0 ≤ c ∧ c < t ∧ (∀ z, P z ↔ z % t = c) ∧ ∃ z, lo ≤ z ∧ z < hi ∧ P z
theorem NF.uniq {lo hi : Int} {P : Int → Prop} {m m' : PV} (h : NF lo hi P m) (h' : NF lo hi P m') : m = m' := by
  rcases h with ⟨rfl, h⟩ | ⟨t, c, rfl, c0, c1, hp, z, z1, z2, z3⟩
  · rcases h' with ⟨rfl, _⟩ | ⟨t', c', rfl, _, _, _, z, z1, z2, z3⟩
    · rfl
    · exact absurd z3 (h z z1 z2)
  · rcases h' with ⟨rfl, h'⟩ | ⟨t', c', rfl, d0, d1, hq, _⟩
    · exact absurd z3 (h' z z1 z2)
    · have k1 : ∀ z, z % t = c ↔ z % t' = c' := fun z => (hp z).symm.trans (hq z)
      have e1 : c % t = c := Int.emod_eq_of_lt c0 c1
      have a1 : c % t' = c' := (k1 c).mp e1
      have a2 : (c + t) % t' = c' := (k1 _).mp (by rw [Int.add_emod_right]; exact e1)
      have e2 : c' % t' = c' := Int.emod_eq_of_lt d0 d1
      have b1 : c' % t = c := (k1 c').mpr e2
      have b2 : (c' + t') % t = c := (k1 _).mpr (by rw [Int.add_emod_right]; exact e2)
      have x1 : t' ∣ t := by
        have := dvd_of_emod (a2.trans a1.symm)
        rwa [show c + t - c = t by omega] at this
      have x2 : t ∣ t' := by
        have := dvd_of_emod (b2.trans b1.symm)
        rwa [show c' + t' - c' = t' by omega] at this
      have e : t = t' := Int.dvd_antisymm (by omega) (by omega) x2 x1
      subst e
      rw [← a1, e1]
/-- a guard with a bounded step -/
structure Gv (l h s r B : Int) : Prop where
  l0 : 0 ≤ l
  lh : l ≤ h
  r0 : 0 ≤ r
  r1 : r < s
  sb : s ≤ B
theorem Gv.g {l h s r B : Int} (g : Gv l h s r B) : isGuard l h s r = true := guard_iff.mpr ⟨g.l0, g.lh, g.r0, g.r1⟩
theorem Gv.s0 {l h s r B : Int} (g : Gv l h s r B) : 0 < s := by have := g.r0; have := g.r1; omega
theorem Gv.none {l h s r B : Int} (g : Gv l h s r B) (hn : ¬ 0 < lanesOf l h s r) {z : Int} (h1 : l ≤ z) (h2 : z < h) : ¬ z % s = r := fun e => by
  obtain ⟨k, k0, k1, _⟩ := (lane_iff g.s0 g.r0 g.r1).mp ⟨h1, h2, e⟩
  omega
/-! ### lanes of remainders of a multiple of the step -/
end PM
/-! PWB: small lemmas of the walk; kernels of a list of statements; barriers of two kernels behind one another. -/
namespace PM
open PySem PySem.Spec PyProof.Rows L2 PL PN
theorem call1v {st : Stt} {m : List SV → List MO → FRes} {fa : Stt → Res PV} {p r : PV} (hf : fa st = .ok p st) (e : m [.val p] [] = .ok r []) : eCall m (avN 1 (lPv fa lNil)) st = .ok r st := by
  simp only [eCall, avN, lPv, lNil, hf, Res.bind_ok, List.length_cons, List.length_nil, Nat.reduceAdd, if_true, lowerA, distinct, getAll, setAll, e]
theorem call2v {st : Stt} {m : List SV → List MO → FRes} {fa fb : Stt → Res PV} {p q r : PV} (hf : fa st = .ok p st) (hg : fb st = .ok q st) (e : m [.val p, .val q] [] = .ok r []) : eCall m (avN 2 (lPv fa (lPv fb lNil))) st = .ok r st := by
  simp only [eCall, avN, lPv, lNil, hf, hg, Res.bind_ok, List.length_cons, List.length_nil, Nat.reduceAdd, if_true, lowerA, distinct, getAll, setAll, e]
theorem ne_no {st : Stt} {fa fb : Stt → Res PV} {p q : PV} (ha : fa st = .ok p st) (hb : fb st = .ok q st) (h : pEqB p q = some true) : tOf (eBin pNe fa fb) st = .ok false st := by
  simp only [tOf, eBin, ha, hb, Res.bind_ok, pNe, h, Option.map_some, Res.opt_some, Bool.not_true]
theorem bin_at {st : Stt} {op : PV → PV → Option PV} {fa fb : Stt → Res PV} {p q r : PV} (ha : fa st = .ok p st) (hb : fb st = .ok q st) (h : op p q = some r) : eBin op fa fb st = .ok r st := by
  simp only [eBin, ha, hb, Res.bind_ok, h, Res.opt_some]
theorem bin_at2 {st s1 s2 : Stt} {op : PV → PV → Option PV} {fa fb : Stt → Res PV} {p q r : PV} (ha : fa st = .ok p s1) (hb : fb s1 = .ok q s2) (h : op p q = some r) : eBin op fa fb st = .ok r s2 := by
  simp only [eBin, ha, hb, Res.bind_ok, h, Res.opt_some]
theorem asg_at {st s1 s2 : Stt} {fa : Stt → Res PV} {i : Nat} {p : PV} (ha : fa st = .ok p s1) (h : setV i p s1 = s2) : gAsg fa (aName i) st = .nx s2 := by
  unfold gAsg
  rw [ha, ← h]
  rfl
theorem add_lst {a b : List PV} (h : a.length + b.length ≤ 16777216) : pAdd (.lst a) (.lst b) = some (.lst (a ++ b)) := if_pos h
theorem if_no {st : Stt} {ft : Stt → Res Bool} {g : Stt → Fl} (h : ft st = .ok false st) : gIf ft g gNop st = .nx st := by
  simp only [gIf, h, Res.fl, Bool.false_eq_true, if_false, gNop]
theorem orr_no {st : Stt} {f g : Stt → Res Bool} (h : f st = .ok false st) (k : g st = .ok false st) : tOrr f g st = .ok false st := by
  simp only [tOrr, h, k, Res.bind_ok, Bool.false_eq_true, if_false]
theorem ret_at {st s1 : Stt} {fa : Stt → Res PV} {p : PV} (ha : fa st = .ok p s1) : gRet fa st = .rt p s1 := by
  unfold gRet
  rw [ha]
  rfl
abbrev pvs (xs : List Stm) : PV := .lst (xs.map Stm.pv)
abbrev bars (bs : List Int) : PV := .lst (bs.map PV.int)
theorem Dd.bl (b : Bool) : Dd (.bl b) 0 := ⟨.bool b, rfl, by simp [PyData.canLay0], by simp [PyData.depth]⟩
theorem drop_at {st s1 : Stt} {fa : Stt → Res PV} {p : PV} (ha : fa st = .ok p s1) : gDrop fa st = .nx s1 := by
  unfold gDrop
  rw [ha]
  rfl
theorem lst_at {st s1 : Stt} {fa : Stt → Res (List PV)} {l : List PV} (ha : fa st = .ok l s1) (h : l.length ≤ 16777216) : frz (oLst fa) st = .ok (.lst l) s1 := by
  unfold frz oLst
  rw [ha]
  simp only [Res.bind_ok]
  rw [if_pos h]
  rfl
theorem Dd.non : Dd .non 0 := ⟨.none, rfl, by simp [PyData.canLay0], by simp [PyData.depth]⟩
/-! ### barriers -/
theorem bar_asc {k : Int} : ∀ {bs : List Int} {lo : Int}, (∀ (i : Nat) (p q : Int), (lo :: bs)[i]? = some p → bs[i]? = some q → p < q ∧ q < k) → bs.Pairwise (· < ·) ∧ ∀ b ∈ bs, lo < b ∧ b < k
  | [], _, _ => ⟨.nil, by simp⟩
  | b :: t, lo, h => by
    have h0 := h 0 lo b rfl rfl
    obtain ⟨i1, i2⟩ := bar_asc (bs := t) (lo := b) fun i p q hp hq => h (i + 1) p q hp hq
    refine ⟨List.pairwise_cons.mpr ⟨fun x hx => (i2 x hx).1, i1⟩, fun x hx => ?_⟩
    rcases List.mem_cons.mp hx with rfl | hx
    · exact h0
    · have := i2 x hx; omega
structure Bar (k : Nat) (bs : List Int) : Prop where
  asc : bs.Pairwise (· < ·)
  bd : ∀ b ∈ bs, 0 < b ∧ b < k
theorem Bar.ok {k : Nat} {bs : List Int} (h : Bar k bs) : BarOk k bs := bar_of h.asc h.bd
theorem Bar.of {k : Nat} {bs : List Int} (h : BarOk k bs) : Bar k bs := ⟨(bar_asc h).1, (bar_asc h).2⟩
def btwI (a b : Nat) : List Int := if 0 < a ∧ 0 < b then [(a : Int)] else []
def joinB (bs : List Int) (a b : Nat) (cs : List Int) : List Int := bs ++ btwI a b ++ cs.map fun c => (a : Int) + c
theorem btw_mem {a b : Nat} {x : Int} (h : x ∈ btwI a b) : x = a ∧ 0 < a ∧ 0 < b := by
  unfold btwI at h
  split at h
  · rw [List.mem_singleton] at h; rename_i q; exact ⟨h, q⟩
  · cases h
theorem Bar.join {a b : Nat} {bs cs : List Int} (h1 : Bar a bs) (h2 : Bar b cs) : Bar (a + b) (joinB bs a b cs) := by
  refine ⟨?_, fun x hx => ?_⟩
  · unfold joinB
    rw [List.append_assoc, List.pairwise_append, List.pairwise_append]
    refine ⟨h1.asc, ⟨?_, ?_, ?_⟩, ?_⟩
    · unfold btwI; split <;> simp
    · rw [List.pairwise_map]
      exact h2.asc.imp fun h => by omega
    · intro x hx y hy
      obtain ⟨c, hc, rfl⟩ := List.mem_map.mp hy
      have := (btw_mem hx).1
      have := h2.bd c hc
      omega
    · intro x hx y hy
      have k1 := h1.bd x hx
      rcases List.mem_append.mp hy with hy | hy
      · have := (btw_mem hy).1; omega
      · obtain ⟨c, hc, rfl⟩ := List.mem_map.mp hy
        have := h2.bd c hc
        omega
  · unfold joinB at hx
    rcases List.mem_append.mp hx with hx | hx
    · rcases List.mem_append.mp hx with hx | hx
      · have := h1.bd x hx; omega
      · have := btw_mem hx; omega
    · obtain ⟨c, hc, rfl⟩ := List.mem_map.mp hx
      have := h2.bd c hc
      omega
end PM
/-! PWC: accesses of all words, phases, the sum of two kernels, other barriers. -/
namespace PM
open PySem PySem.Spec PyProof.Rows L2 PL PN
local macro_rules | `(tactic| walk_at "ev") => `(tactic| try simp only [mOf, endF, start0, gSeq, gNop, gAsg, gRet, gRetO, gAsgO, gDrop, gIf, gOpt, gPar, gPar3, gAug, aName, asNil, asCons, aTup, aLst, setV, setO, eVar, eC, eBin, eUn, eTup, aNil, aCons, oLst, frz, eCall, oCall, avN, avK, permL, lNil, lPv, lSl, tOf, tTru, tNt, tAn, tOrr, eIf, eAn, eOr, eNt, eChain, eCallB, eIxM, gSetIx, getM, pTru, pAdd, pSub, pMul, pFdiv, pMod, pPow, pNeg, pLt, pLe, pGt, pGe, pIs, pIsNot, pAddI, pIx, pLen, pAbs, pMax2, pMin2, Res.bind_ok, Res.bind_ex, Res.bind_stuck, Res.fl_ok, Res.fl_ex, Res.fl_stuck, Res.opt_some, Res.opt_none, lowerA, PL.keyOf, getK, getAll, setAll, setK, distinct, List.map_cons, List.map_nil, List.length_cons, List.length_nil, List.replicate, List.cons_append, List.nil_append, List.append_nil, List.getElem?_cons_zero, List.getElem?_cons_succ, List.getElem?_nil, List.set_cons_zero, List.set_cons_succ, List.filterMap_cons, List.filterMap_nil, Option.bind_some, Option.map_some, Option.elim_some, if_true, if_false, Nat.reduceAdd, Nat.reduceSub, Nat.reduceEqDiff, Nat.reduceLeDiff, ↓reduceIte, Bool.false_eq_true, at0, at1, at2, at3, pEq, pNe, eqB_int, Option.some.injEq, decide_true, decide_false, not_true_eq_false, not_false_eq_true, Bool.and_true, ne_eq, reduceCtorEq, Bool.true_eq_false, Bool.not_true, Bool.not_false, frz, noEx, wipeS, wipeR, backS, backR, keepV, oComp, gFor, iAny, iRange1, iRange2, iRange3, iRangeW1, iRangeW2, eCallQ, oRgW2, oRgW, pInt1, iEnumQ, eDct, iTxt, eFld, eMake, gSetFld, eFldM, eTupV, putP, eLenSet, gFrz, Nat.reduceLT, oRg2, oRg1, oRg, tYesD, pIn, pNotIn, eSl, pNo, pSo, forL_nil, gApp, gParO, List.not_mem_nil, List.not_mem_nil])
local macro_rules | `(tactic| walk_at "evs") => `(tactic| simp only [*, mOf, endF, start0, gSeq, gNop, gAsg, gRet, gRetO, gAsgO, gDrop, gIf, gOpt, gPar, gPar3, gAug, aName, asNil, asCons, aTup, aLst, setV, setO, eVar, eC, eBin, eUn, eTup, aNil, aCons, oLst, frz, eCall, oCall, avN, avK, permL, lNil, lPv, lSl, tOf, tTru, tNt, tAn, tOrr, eIf, eAn, eOr, eNt, eChain, eCallB, eIxM, gSetIx, getM, pTru, pAdd, pSub, pMul, pFdiv, pMod, pPow, pNeg, pLt, pLe, pGt, pGe, pIs, pIsNot, pAddI, pIx, pLen, pAbs, pMax2, pMin2, Res.bind_ok, Res.bind_ex, Res.bind_stuck, Res.fl_ok, Res.fl_ex, Res.fl_stuck, Res.opt_some, Res.opt_none, lowerA, PL.keyOf, getK, getAll, setAll, setK, distinct, List.map_cons, List.map_nil, List.length_cons, List.length_nil, List.replicate, List.cons_append, List.nil_append, List.append_nil, List.getElem?_cons_zero, List.getElem?_cons_succ, List.getElem?_nil, List.set_cons_zero, List.set_cons_succ, List.filterMap_cons, List.filterMap_nil, Option.bind_some, Option.map_some, Option.elim_some, if_true, if_false, Nat.reduceAdd, Nat.reduceSub, Nat.reduceEqDiff, Nat.reduceLeDiff, ↓reduceIte, Bool.false_eq_true, at0, at1, at2, at3, pEq, pNe, eqB_int, Option.some.injEq, decide_true, decide_false, not_true_eq_false, not_false_eq_true, Bool.and_true, ne_eq, reduceCtorEq, Bool.true_eq_false, Bool.not_true, Bool.not_false, frz, noEx, wipeS, wipeR, backS, backR, keepV, oComp, gFor, iAny, iRange1, iRange2, iRange3, iRangeW1, iRangeW2, eCallQ, oRgW2, oRgW, pInt1, iEnumQ, eDct, iTxt, eFld, eMake, gSetFld, eFldM, eTupV, putP, eLenSet, gFrz, Nat.reduceLT, oRg2, oRg1, oRg, tYesD, pIn, pNotIn, eSl, pNo, pSo, forL_nil, gApp, gParO, List.not_mem_nil, List.not_mem_nil, eq_self, not_true_eq_false, not_false_eq_true, ix30, ix31, ix32, Bool.and_self, and_self, and_true, true_and])
/-! ### accesses -/
abbrev accR (i : Int) (z : Str) (a b : Int) : PV := .tup [.int i, .str "read", .str z, .int a, .int b]
def accOf (i : Int) (x : Stm) : List PV := match x.k with
  | .put _ _ => [accW i x.z x.a x.b]
  | .move z2 c d _ => [accR i z2 c d, accW i x.z x.a x.b]
  | .sum z2 c d z3 e f => [accR i z2 c d, accR i z3 e f, accW i x.z x.a x.b]
def accs (i : Int) : List Stm → List PV
  | [] => []
  | x :: xs => accOf i x ++ accs (i + 1) xs
theorem accs_append : ∀ (i : Int) (xs ys : List Stm), accs i (xs ++ ys) = accs i xs ++ accs (i + xs.length) ys
  | i, [], ys => by rw [List.nil_append]; show _ = [] ++ accs (i + ((0 : Nat) : Int)) ys; simp
  | i, x :: xs, ys => by
    rw [List.cons_append]
    show accOf i x ++ accs (i + 1) (xs ++ ys) = accOf i x ++ accs (i + 1) xs ++ _
    rw [accs_append (i + 1) xs ys, List.append_assoc, List.length_cons, show i + 1 + (xs.length : Int) = i + ((xs.length + 1 : Nat) : Int) by omega]
theorem accOf_len (i : Int) (x : Stm) : (accOf i x).length ≤ 3 := by
  obtain ⟨l, h, s, r, z, a, b, k⟩ := x
  cases k <;> simp [accOf]
theorem accs_len : ∀ (i : Int) (xs : List Stm), (accs i xs).length ≤ 3 * xs.length
  | i, [] => by simp [accs]
  | i, x :: xs => by
    have := accs_len (i + 1) xs
    have := accOf_len i x
    rw [accs, List.length_append, List.length_cons]
    omega
theorem so_rw : PyData.strOk (Str.ofString "read") = true ∧ PyData.strOk (Str.ofString "write") = true := by decide +kernel
theorem e_accesses_putA (i : Int) (l h s r a b : Int) (z : Str) (c d : Int) : m_accesses_in [.val (.int i), .val (.tup [.str "put", gt l h s r, .str z, .int a, .int b, .int c, .int d])] [] = .ok (.lst [accW i z a b]) [] := by
  have t1 : q_accesses_in_1 ⟨[some (.val (.int i)), some (.val (.tup [.str "put", gt l h s r, .str z, .int a, .int b, .int c, .int d])), none, none, none], []⟩ = .nx ⟨[some (.val (.int i)), some (.val (.tup [.str "put", gt l h s r, .str z, .int a, .int b, .int c, .int d])), some (.val (.tup [.int 2])), none, none], []⟩ := rfl
  have t2 : q_accesses_in_2 ⟨[some (.val (.int i)), some (.val (.tup [.str "put", gt l h s r, .str z, .int a, .int b, .int c, .int d])), some (.val (.tup [.int 2])), none, none], []⟩ = .nx ⟨[some (.val (.int i)), some (.val (.tup [.str "put", gt l h s r, .str z, .int a, .int b, .int c, .int d])), some (.val (.tup [.int 2])), some (.val (.lst [])), none], []⟩ := rfl
  have t3 : q_accesses_in_3 ⟨[some (.val (.int i)), some (.val (.tup [.str "put", gt l h s r, .str z, .int a, .int b, .int c, .int d])), some (.val (.tup [.int 2])), some (.val (.lst [])), none], []⟩ = .rt (.lst [accW i z a b]) ⟨[some (.val (.int i)), some (.val (.tup [.str "put", gt l h s r, .str z, .int a, .int b, .int c, .int d])), some (.val (.tup [.int 2])), some (.val (.lst [])), none], []⟩ := rfl
  unfold m_accesses_in
  rw [g_accesses_in_eq]
  simp only [mOf, start0, List.map_cons, List.map_nil, List.length_cons, List.length_nil, Nat.reduceAdd, Nat.reduceSub, List.replicate, List.cons_append, List.nil_append]
  rw [seq_nx t1, seq_nx t2, seq_rt t3]
  rfl
theorem e_accesses_moveA (i : Int) (l h s r a b : Int) (z : Str) (c d e : Int) (z2 : Str) : m_accesses_in [.val (.int i), .val (.tup [.str "move", gt l h s r, .str z, .int a, .int b, .str z2, .int c, .int d, .int e])] [] = .ok (.lst [accR i z2 c d, accW i z a b]) [] := by
  have t1 : q_accesses_in_1 ⟨[some (.val (.int i)), some (.val (.tup [.str "move", gt l h s r, .str z, .int a, .int b, .str z2, .int c, .int d, .int e])), none, none, none], []⟩ = .nx ⟨[some (.val (.int i)), some (.val (.tup [.str "move", gt l h s r, .str z, .int a, .int b, .str z2, .int c, .int d, .int e])), some (.val (.tup [.int 2, .int 5])), none, none], []⟩ := rfl
  have t2 : q_accesses_in_2 ⟨[some (.val (.int i)), some (.val (.tup [.str "move", gt l h s r, .str z, .int a, .int b, .str z2, .int c, .int d, .int e])), some (.val (.tup [.int 2, .int 5])), none, none], []⟩ = .nx ⟨[some (.val (.int i)), some (.val (.tup [.str "move", gt l h s r, .str z, .int a, .int b, .str z2, .int c, .int d, .int e])), some (.val (.tup [.int 2, .int 5])), some (.val (.lst [accR i z2 c d])), none], []⟩ := rfl
  have t3 : q_accesses_in_3 ⟨[some (.val (.int i)), some (.val (.tup [.str "move", gt l h s r, .str z, .int a, .int b, .str z2, .int c, .int d, .int e])), some (.val (.tup [.int 2, .int 5])), some (.val (.lst [accR i z2 c d])), none], []⟩ = .rt (.lst [accR i z2 c d, accW i z a b]) ⟨[some (.val (.int i)), some (.val (.tup [.str "move", gt l h s r, .str z, .int a, .int b, .str z2, .int c, .int d, .int e])), some (.val (.tup [.int 2, .int 5])), some (.val (.lst [accR i z2 c d])), none], []⟩ := rfl
  unfold m_accesses_in
  rw [g_accesses_in_eq]
  simp only [mOf, start0, List.map_cons, List.map_nil, List.length_cons, List.length_nil, Nat.reduceAdd, Nat.reduceSub, List.replicate, List.cons_append, List.nil_append]
  rw [seq_nx t1, seq_nx t2, seq_rt t3]
  rfl
theorem e_accesses_sumA (i : Int) (l h s r a b : Int) (z : Str) (c d e f : Int) (z2 z3 : Str) : m_accesses_in [.val (.int i), .val (.tup [.str "sum", gt l h s r, .str z, .int a, .int b, .str z2, .int c, .int d, .str z3, .int e, .int f])] [] = .ok (.lst [accR i z2 c d, accR i z3 e f, accW i z a b]) [] := by
  have t1 : q_accesses_in_1 ⟨[some (.val (.int i)), some (.val (.tup [.str "sum", gt l h s r, .str z, .int a, .int b, .str z2, .int c, .int d, .str z3, .int e, .int f])), none, none, none], []⟩ = .nx ⟨[some (.val (.int i)), some (.val (.tup [.str "sum", gt l h s r, .str z, .int a, .int b, .str z2, .int c, .int d, .str z3, .int e, .int f])), some (.val (.tup [.int 2, .int 5, .int 8])), none, none], []⟩ := rfl
  have t2 : q_accesses_in_2 ⟨[some (.val (.int i)), some (.val (.tup [.str "sum", gt l h s r, .str z, .int a, .int b, .str z2, .int c, .int d, .str z3, .int e, .int f])), some (.val (.tup [.int 2, .int 5, .int 8])), none, none], []⟩ = .nx ⟨[some (.val (.int i)), some (.val (.tup [.str "sum", gt l h s r, .str z, .int a, .int b, .str z2, .int c, .int d, .str z3, .int e, .int f])), some (.val (.tup [.int 2, .int 5, .int 8])), some (.val (.lst [accR i z2 c d, accR i z3 e f])), none], []⟩ := rfl
  have t3 : q_accesses_in_3 ⟨[some (.val (.int i)), some (.val (.tup [.str "sum", gt l h s r, .str z, .int a, .int b, .str z2, .int c, .int d, .str z3, .int e, .int f])), some (.val (.tup [.int 2, .int 5, .int 8])), some (.val (.lst [accR i z2 c d, accR i z3 e f])), none], []⟩ = .rt (.lst [accR i z2 c d, accR i z3 e f, accW i z a b]) ⟨[some (.val (.int i)), some (.val (.tup [.str "sum", gt l h s r, .str z, .int a, .int b, .str z2, .int c, .int d, .str z3, .int e, .int f])), some (.val (.tup [.int 2, .int 5, .int 8])), some (.val (.lst [accR i z2 c d, accR i z3 e f])), none], []⟩ := rfl
  unfold m_accesses_in
  rw [g_accesses_in_eq]
  simp only [mOf, start0, List.map_cons, List.map_nil, List.length_cons, List.length_nil, Nat.reduceAdd, Nat.reduceSub, List.replicate, List.cons_append, List.nil_append]
  rw [seq_nx t1, seq_nx t2, seq_rt t3]
  rfl
theorem e_accesses_in (i : Int) (x : Stm) : m_accesses_in [.val (.int i), .val x.pv] [] = .ok (.lst (accOf i x)) [] := by
  obtain ⟨l, h, s, r, z, a, b, kk⟩ := x
  cases kk with
  | put c d => exact e_accesses_putA i l h s r a b z c d
  | move z2 c d e => exact e_accesses_moveA i l h s r a b z c d e z2
  | sum z2 c d z3 e f => exact e_accesses_sumA i l h s r a b z c d e f z2 z3
section
variable {n : Int} {xs ys : List Stm} {bs cs : List Int}
theorem e_access_list (hl : xs.length ≤ 1000) : m_access_list [.val (kern n (xs.map Stm.pv) (bs.map PV.int))] [] = .ok (.lst (accs 0 xs)) [] := by
  obtain ⟨s2, e2, x2, x3, rfl⟩ := forL_inv (a := l_access_list_1b) (b := l_access_list_1c) (fun i s => ∃ x2 x3 : Option SV, s = ⟨[some (.val (kern n (xs.map Stm.pv) (bs.map PV.int))), some (.own (.lst (accs 0 (xs.take i)))), x2, x3], []⟩) (enumP (xs.map Stm.pv)) 0 ⟨[some (.val (kern n (xs.map Stm.pv) (bs.map PV.int))), some (.own (.lst ([]))), none, none], []⟩ ⟨none, none, by rw [List.take_zero]; rfl⟩ (by
    rintro i p s hpi ⟨x2, x3, rfl⟩
    obtain ⟨q, hq, rfl⟩ := enumP_at hpi
    rw [List.getElem?_map] at hq
    cases hxi : xs[i]? with
    | none => rw [hxi] at hq; cases hq
    | some x =>
      rw [hxi] at hq
      obtain rfl : x.pv = q := Option.some.inj hq
      have hi : i < xs.length := (List.getElem?_eq_some_iff.mp hxi).1
      have hlen : (xs.take i).length = i := by rw [List.length_take]; omega
      refine ⟨_, rfl, ⟨[some (.val (kern n (xs.map Stm.pv) (bs.map PV.int))), some (.own (.lst (accs 0 (xs.take (i + 1))))), some (.val (.int (i : Int))), some (.val (x.pv))], []⟩, .inl ?_, some (.val (.int (i : Int))), some (.val (x.pv)), by rw [Nat.zero_add]⟩
      have q : eCall PM.m_accesses_in (avN 2 (lPv (eVar 2) (lPv (eVar 3) lNil))) ⟨[some (.val (kern n (xs.map Stm.pv) (bs.map PV.int))), some (.own (.lst (accs 0 (xs.take i)))), some (.val (.int (i : Int))), some (.val (x.pv))], []⟩ = .ok (.lst (accOf i x)) ⟨[some (.val (kern n (xs.map Stm.pv) (bs.map PV.int))), some (.own (.lst (accs 0 (xs.take i)))), some (.val (.int (i : Int))), some (.val (x.pv))], []⟩ := call2v rfl rfl (e_accesses_in i x)
      have g : getM (⟨[some (.val (kern n (xs.map Stm.pv) (bs.map PV.int))), some (.own (.lst (accs 0 (xs.take i)))), some (.val (.int (i : Int))), some (.val (x.pv))], []⟩ : Stt) 1 = some (.inl 1, .lst (accs 0 (xs.take i))) := rfl
      have b1 := accs_len 0 (xs.take i)
      have b2 := accOf_len i x
      have t : l_access_list_1c_s1 ⟨[some (.val (kern n (xs.map Stm.pv) (bs.map PV.int))), some (.own (.lst (accs 0 (xs.take i)))), some (.val (.int (i : Int))), some (.val (x.pv))], []⟩ = .nx ⟨[some (.val (kern n (xs.map Stm.pv) (bs.map PV.int))), some (.own (.lst (accs 0 (xs.take (i + 1))))), some (.val (.int (i : Int))), some (.val (x.pv))], []⟩ := by
        unfold l_access_list_1c_s1 gExt
        rw [g]
        simp only [Option.elim_some, q, Res.fl, g]
        rw [if_pos (by omega), List.take_add_one, hxi, Option.toList_some, accs_append, hlen, Int.zero_add]
        show Fl.nx ⟨[some (.val (kern n (xs.map Stm.pv) (bs.map PV.int))), some (.own (.lst (accs 0 (xs.take i) ++ accOf i x))), some (.val (.int (i : Int))), some (.val (x.pv))], []⟩ = Fl.nx ⟨[some (.val (kern n (xs.map Stm.pv) (bs.map PV.int))), some (.own (.lst (accs 0 (xs.take i) ++ (accOf i x ++ [])))), some (.val (.int (i : Int))), some (.val (x.pv))], []⟩
        rw [List.append_nil]
      rw [Nat.zero_add]
      show l_access_list_1c ⟨[some (.val (kern n (xs.map Stm.pv) (bs.map PV.int))), some (.own (.lst (accs 0 (xs.take i)))), some (.val (.int (i : Int))), some (.val (x.pv))], []⟩ = _
      unfold l_access_list_1c
      rw [seq_nx t]
      rfl)
  have t1 : q_access_list_1 ⟨[some (.val (kern n (xs.map Stm.pv) (bs.map PV.int))), none, none, none], []⟩ = .nx ⟨[some (.val (kern n (xs.map Stm.pv) (bs.map PV.int))), some (.own (.lst ([]))), none, none], []⟩ := rfl
  have hlen : 0 + (enumP (xs.map Stm.pv)).length = xs.length := by rw [enumP_len, List.length_map, Nat.zero_add]
  rw [hlen, List.take_length] at e2
  have t2 : q_access_list_2 ⟨[some (.val (kern n (xs.map Stm.pv) (bs.map PV.int))), some (.own (.lst ([]))), none, none], []⟩ = .nx ⟨[some (.val (kern n (xs.map Stm.pv) (bs.map PV.int))), some (.own (.lst (accs 0 xs))), x2, x3], []⟩ := e2
  have t3 : q_access_list_3 ⟨[some (.val (kern n (xs.map Stm.pv) (bs.map PV.int))), some (.own (.lst (accs 0 xs))), x2, x3], []⟩ = .rt (.lst (accs 0 xs)) ⟨[some (.val (kern n (xs.map Stm.pv) (bs.map PV.int))), none, x2, x3], []⟩ := rfl
  unfold m_access_list
  rw [g_access_list_eq]
  simp only [mOf, start0, List.map_cons, List.map_nil, List.length_cons, List.length_nil, Nat.reduceAdd, Nat.reduceSub, List.replicate, List.cons_append, List.nil_append]
  rw [seq_nx t1, seq_nx t2, seq_rt t3]
  rfl
/-! ### phases -/
/-! ### other barriers, sums -/
end
end PM
/-! PCR: plain maths of the crossing of two rows of lanes. -/
namespace PM
open PySem PySem.Spec PyProof.Rows L2 PL PN
/-- the least and the greatest t for which a + k * t lies from 0 to m - 1 -/
def rLo (a k m : Int) : Int := if k < 0 then -((m - 1 - a) / -k) else -(a / k)
def rHi (a k m : Int) : Int := if k < 0 then (m - 1 - (m - 1 - a)) / -k else (m - 1 - a) / k
theorem isLane_iff {l h s r i : Int} (s0 : 0 < s) (r0 : 0 ≤ r) (r1 : r < s) : isLane l h s r i = true ↔ ∃ x, (0 ≤ x ∧ x < lanesOf l h s r) ∧ i = firstOf l s r + s * x := by
  unfold isLane
  rw [decide_eq_true_eq, lane_iff s0 r0 r1]
  exact ⟨fun ⟨k, a, b, c⟩ => ⟨k, ⟨a, b⟩, c⟩, fun ⟨k, ⟨a, b⟩, c⟩ => ⟨k, a, b, c⟩⟩
end PM
/-! PCN: plain maths of pairs of lanes counted; statements that touch. -/
namespace PM
open PySem PySem.Spec PyProof.Rows L2 PL PN
theorem nodup_le {α : Type} [DecidableEq α] : ∀ {l m : List α}, l.Nodup → l ⊆ m → l.length ≤ m.length
  | [], _, _, _ => Nat.zero_le _
  | x :: l, m, hn, hs => by
    obtain ⟨h1, h2⟩ := List.nodup_cons.mp hn
    have hx : x ∈ m := hs List.mem_cons_self
    have hl : l ⊆ m.erase x := fun y hy => by
      have : y ≠ x := fun e => h1 (e ▸ hy)
      exact (List.mem_erase_of_ne this).mpr (hs (List.mem_cons_of_mem _ hy))
    have := nodup_le h2 hl
    rw [List.length_erase_of_mem hx] at this
    have := List.length_pos_of_mem hx
    rw [List.length_cons]
    omega
theorem nodup_listed (l h s r : Int) : (listed l h s r).Nodup := (listed_asc l h s r).imp fun h => by omega
theorem isLane_listed {l h s r i : Int} : isLane l h s r i = true ↔ i ∈ listed l h s r := by
  rw [mem_listed]
  exact decide_eq_true_iff
/-! ### statements that touch -/
structure Ac where
  w : Bool
  z : Str
  a : Int
  b : Int
def Stm.ac (x : Stm) : List Ac := match x.k with
  | .put _ _ => [⟨true, x.z, x.a, x.b⟩]
  | .move z2 c d _ => [⟨false, z2, c, d⟩, ⟨true, x.z, x.a, x.b⟩]
  | .sum z2 c d z3 e f => [⟨false, z2, c, d⟩, ⟨false, z3, e, f⟩, ⟨true, x.z, x.a, x.b⟩]
def Stm.val (x : Stm) : Option (Int × Int) := match x.k with
  | .put c d => some (c, d)
  | _ => none
def Alike (x : Stm) (i : Int) (y : Stm) (j : Int) : Prop := ∃ c d c2 d2, x.val = some (c, d) ∧ y.val = some (c2, d2) ∧ c * i + d = c2 * j + d2
abbrev Stm.lane (x : Stm) (i : Int) : Prop := isLane x.l x.h x.s x.r i = true
/-! ### the same far out -/
end PM
/-! PCW: bezout of any two numbers; the crossing of two rows, walked. -/
namespace PM
open PySem PySem.Spec PyProof.Rows L2 PL PN
local macro_rules | `(tactic| walk_at "ev") => `(tactic| try simp only [mOf, endF, start0, gSeq, gNop, gAsg, gRet, gRetO, gAsgO, gDrop, gIf, gOpt, gPar, gPar3, gAug, aName, asNil, asCons, aTup, aLst, setV, setO, eVar, eC, eBin, eUn, eTup, aNil, aCons, oLst, frz, eCall, oCall, avN, avK, permL, lNil, lPv, lSl, tOf, tTru, tNt, tAn, tOrr, eIf, eAn, eOr, eNt, eChain, eCallB, eIxM, gSetIx, getM, pTru, pAdd, pSub, pMul, pFdiv, pMod, pPow, pNeg, pLt, pLe, pGt, pGe, pIs, pIsNot, pAddI, pIx, pLen, pAbs, pMax2, pMin2, Res.bind_ok, Res.bind_ex, Res.bind_stuck, Res.fl_ok, Res.fl_ex, Res.fl_stuck, Res.opt_some, Res.opt_none, lowerA, PL.keyOf, getK, getAll, setAll, setK, distinct, List.map_cons, List.map_nil, List.length_cons, List.length_nil, List.replicate, List.cons_append, List.nil_append, List.append_nil, List.getElem?_cons_zero, List.getElem?_cons_succ, List.getElem?_nil, List.set_cons_zero, List.set_cons_succ, List.filterMap_cons, List.filterMap_nil, Option.bind_some, Option.map_some, Option.elim_some, if_true, if_false, Nat.reduceAdd, Nat.reduceSub, Nat.reduceEqDiff, Nat.reduceLeDiff, ↓reduceIte, Bool.false_eq_true, at0, at1, at2, at3, pEq, pNe, eqB_int, Option.some.injEq, decide_true, decide_false, not_true_eq_false, not_false_eq_true, Bool.and_true, ne_eq, reduceCtorEq, Bool.true_eq_false, Bool.not_true, Bool.not_false, frz, noEx, wipeS, wipeR, backS, backR, keepV, oComp, gFor, iAny, iRange1, iRange2, iRange3, iRangeW1, iRangeW2, eCallQ, oRgW2, oRgW, pInt1, iEnumQ, eDct, iTxt, eFld, eMake, gSetFld, eFldM, eTupV, putP, eLenSet, gFrz, Nat.reduceLT, oRg2, oRg1, oRg, tYesD, pIn, pNotIn, eSl, pNo, pSo, forL_nil, gApp, gParO, List.not_mem_nil, List.not_mem_nil])
local macro_rules | `(tactic| walk_at "evs") => `(tactic| simp only [*, mOf, endF, start0, gSeq, gNop, gAsg, gRet, gRetO, gAsgO, gDrop, gIf, gOpt, gPar, gPar3, gAug, aName, asNil, asCons, aTup, aLst, setV, setO, eVar, eC, eBin, eUn, eTup, aNil, aCons, oLst, frz, eCall, oCall, avN, avK, permL, lNil, lPv, lSl, tOf, tTru, tNt, tAn, tOrr, eIf, eAn, eOr, eNt, eChain, eCallB, eIxM, gSetIx, getM, pTru, pAdd, pSub, pMul, pFdiv, pMod, pPow, pNeg, pLt, pLe, pGt, pGe, pIs, pIsNot, pAddI, pIx, pLen, pAbs, pMax2, pMin2, Res.bind_ok, Res.bind_ex, Res.bind_stuck, Res.fl_ok, Res.fl_ex, Res.fl_stuck, Res.opt_some, Res.opt_none, lowerA, PL.keyOf, getK, getAll, setAll, setK, distinct, List.map_cons, List.map_nil, List.length_cons, List.length_nil, List.replicate, List.cons_append, List.nil_append, List.append_nil, List.getElem?_cons_zero, List.getElem?_cons_succ, List.getElem?_nil, List.set_cons_zero, List.set_cons_succ, List.filterMap_cons, List.filterMap_nil, Option.bind_some, Option.map_some, Option.elim_some, if_true, if_false, Nat.reduceAdd, Nat.reduceSub, Nat.reduceEqDiff, Nat.reduceLeDiff, ↓reduceIte, Bool.false_eq_true, at0, at1, at2, at3, pEq, pNe, eqB_int, Option.some.injEq, decide_true, decide_false, not_true_eq_false, not_false_eq_true, Bool.and_true, ne_eq, reduceCtorEq, Bool.true_eq_false, Bool.not_true, Bool.not_false, frz, noEx, wipeS, wipeR, backS, backR, keepV, oComp, gFor, iAny, iRange1, iRange2, iRange3, iRangeW1, iRangeW2, eCallQ, oRgW2, oRgW, pInt1, iEnumQ, eDct, iTxt, eFld, eMake, gSetFld, eFldM, eTupV, putP, eLenSet, gFrz, Nat.reduceLT, oRg2, oRg1, oRg, tYesD, pIn, pNotIn, eSl, pNo, pSo, forL_nil, gApp, gParO, List.not_mem_nil, List.not_mem_nil, eq_self, not_true_eq_false, not_false_eq_true, ix30, ix31, ix32, Bool.and_self, and_self, and_true, true_and])
/-! ### bezout of any two numbers -/
structure BzG (a b B f s x y : Int) : Prop where
  f0 : 0 < f
  s0 : 0 ≤ s
  dv : ∀ d, d ∣ f → d ∣ s → d ∣ a ∧ d ∣ b
  u1 : ∃ u, f = a * x + b * u
  u2 : ∃ u, s = a * y + b * u
  sg : ∃ e X Y : Int, (e = 1 ∨ e = -1) ∧ x = e * X ∧ y = -(e * Y) ∧ 0 ≤ X ∧ 0 ≤ Y ∧ X ≤ B ∧ X * s + Y * f = B
theorem BzG.next {a b B f s x y : Int} (i : BzG a b B f s x y) (hs : 0 < s) : BzG a b B s (f - f / s * s) y (x - f / s * y) := by
  have hm : f - f / s * s = f % s := by rw [Int.emod_def, Int.mul_comm]
  have t0 : 0 ≤ f / s := Int.ediv_nonneg (Int.le_of_lt i.f0) i.s0
  refine ⟨hs, ?_, ?_, i.u2, ?_, ?_⟩
  · rw [hm]; exact Int.emod_nonneg _ (by omega)
  · intro d h1 h2
    refine i.dv d ?_ h1
    have : f = (f - f / s * s) + f / s * s := by omega
    rw [this]
    exact Int.dvd_add h2 ((show d ∣ f / s * s from Int.dvd_trans h1 (Int.dvd_mul_left _ _)))
  · obtain ⟨u, hu⟩ := i.u1
    obtain ⟨v, hv⟩ := i.u2
    refine ⟨u - f / s * v, ?_⟩
    generalize f / s = t at *
    subst hu hv
    grind
  · obtain ⟨e, X, Y, he, hx, hy, hX, hY, hb, hq⟩ := i.sg
    refine ⟨-e, Y, X + f / s * Y, by omega, by grind, ?_, hY, ?_, ?_, ?_⟩
    · generalize f / s = t at *
      subst hx hy
      grind
    · have := Int.mul_nonneg t0 hY; omega
    · have h1 : 0 ≤ X * s := Int.mul_nonneg hX i.s0
      have h2 : Y * 1 ≤ Y * f := Int.mul_le_mul_of_nonneg_left i.f0 hY
      omega
    · generalize f / s = t at *
      grind
end PM
/-! PCX: the crossing of two rows, walked. -/
namespace PM
open PySem PySem.Spec PyProof.Rows L2 PL PN
local macro_rules | `(tactic| walk_at "ev") => `(tactic| try simp only [mOf, endF, start0, gSeq, gNop, gAsg, gRet, gRetO, gAsgO, gDrop, gIf, gOpt, gPar, gPar3, gAug, aName, asNil, asCons, aTup, aLst, setV, setO, eVar, eC, eBin, eUn, eTup, aNil, aCons, oLst, frz, eCall, oCall, avN, avK, permL, lNil, lPv, lSl, tOf, tTru, tNt, tAn, tOrr, eIf, eAn, eOr, eNt, eChain, eCallB, eIxM, gSetIx, getM, pTru, pAdd, pSub, pMul, pFdiv, pMod, pPow, pNeg, pLt, pLe, pGt, pGe, pIs, pIsNot, pAddI, pIx, pLen, pAbs, pMax2, pMin2, Res.bind_ok, Res.bind_ex, Res.bind_stuck, Res.fl_ok, Res.fl_ex, Res.fl_stuck, Res.opt_some, Res.opt_none, lowerA, PL.keyOf, getK, getAll, setAll, setK, distinct, List.map_cons, List.map_nil, List.length_cons, List.length_nil, List.replicate, List.cons_append, List.nil_append, List.append_nil, List.getElem?_cons_zero, List.getElem?_cons_succ, List.getElem?_nil, List.set_cons_zero, List.set_cons_succ, List.filterMap_cons, List.filterMap_nil, Option.bind_some, Option.map_some, Option.elim_some, if_true, if_false, Nat.reduceAdd, Nat.reduceSub, Nat.reduceEqDiff, Nat.reduceLeDiff, ↓reduceIte, Bool.false_eq_true, at0, at1, at2, at3, pEq, pNe, eqB_int, Option.some.injEq, decide_true, decide_false, not_true_eq_false, not_false_eq_true, Bool.and_true, ne_eq, reduceCtorEq, Bool.true_eq_false, Bool.not_true, Bool.not_false, frz, noEx, wipeS, wipeR, backS, backR, keepV, oComp, gFor, iAny, iRange1, iRange2, iRange3, iRangeW1, iRangeW2, eCallQ, oRgW2, oRgW, pInt1, iEnumQ, eDct, iTxt, eFld, eMake, gSetFld, eFldM, eTupV, putP, eLenSet, gFrz, Nat.reduceLT, oRg2, oRg1, oRg, tYesD, pIn, pNotIn, eSl, pNo, pSo, forL_nil, gApp, gParO, List.not_mem_nil, List.not_mem_nil])
local macro_rules | `(tactic| walk_at "evs") => `(tactic| simp only [*, mOf, endF, start0, gSeq, gNop, gAsg, gRet, gRetO, gAsgO, gDrop, gIf, gOpt, gPar, gPar3, gAug, aName, asNil, asCons, aTup, aLst, setV, setO, eVar, eC, eBin, eUn, eTup, aNil, aCons, oLst, frz, eCall, oCall, avN, avK, permL, lNil, lPv, lSl, tOf, tTru, tNt, tAn, tOrr, eIf, eAn, eOr, eNt, eChain, eCallB, eIxM, gSetIx, getM, pTru, pAdd, pSub, pMul, pFdiv, pMod, pPow, pNeg, pLt, pLe, pGt, pGe, pIs, pIsNot, pAddI, pIx, pLen, pAbs, pMax2, pMin2, Res.bind_ok, Res.bind_ex, Res.bind_stuck, Res.fl_ok, Res.fl_ex, Res.fl_stuck, Res.opt_some, Res.opt_none, lowerA, PL.keyOf, getK, getAll, setAll, setK, distinct, List.map_cons, List.map_nil, List.length_cons, List.length_nil, List.replicate, List.cons_append, List.nil_append, List.append_nil, List.getElem?_cons_zero, List.getElem?_cons_succ, List.getElem?_nil, List.set_cons_zero, List.set_cons_succ, List.filterMap_cons, List.filterMap_nil, Option.bind_some, Option.map_some, Option.elim_some, if_true, if_false, Nat.reduceAdd, Nat.reduceSub, Nat.reduceEqDiff, Nat.reduceLeDiff, ↓reduceIte, Bool.false_eq_true, at0, at1, at2, at3, pEq, pNe, eqB_int, Option.some.injEq, decide_true, decide_false, not_true_eq_false, not_false_eq_true, Bool.and_true, ne_eq, reduceCtorEq, Bool.true_eq_false, Bool.not_true, Bool.not_false, frz, noEx, wipeS, wipeR, backS, backR, keepV, oComp, gFor, iAny, iRange1, iRange2, iRange3, iRangeW1, iRangeW2, eCallQ, oRgW2, oRgW, pInt1, iEnumQ, eDct, iTxt, eFld, eMake, gSetFld, eFldM, eTupV, putP, eLenSet, gFrz, Nat.reduceLT, oRg2, oRg1, oRg, tYesD, pIn, pNotIn, eSl, pNo, pSo, forL_nil, gApp, gParO, List.not_mem_nil, List.not_mem_nil, eq_self, not_true_eq_false, not_false_eq_true, ix30, ix31, ix32, Bool.and_self, and_self, and_true, true_and])
section
variable {st st1 s1 s2 : Stt} {fa fb fc : Stt → Res PV} {p q r : PV} {i j k : Int}
theorem eq_t (ha : fa st = .ok (.int i) st) (hb : fb st = .ok (.int j) st) : tOf (eBin pEq fa fb) st = .ok (i == j) st := by
  simp only [tOf, eBin, ha, hb, Res.bind_ok, pEq, eqB_int, Option.map_some, Res.opt_some]
theorem chain_t (ha : fa st = .ok (.int i) st) (hb : fb st = .ok (.int j) st) (hc : fc st = .ok (.int k) st) : tOf (eChain pLe pLt fa fb fc) st = .ok (decide (i ≤ j ∧ j < k)) st := by
  unfold tOf eChain
  simp only [ha, hb, Res.bind_ok, pLe]
  by_cases q : i ≤ j
  · rw [decide_eq_true q]
    simp only [hc, Res.bind_ok, pLt, Res.opt_some]
    rw [show decide (j < k) = decide (i ≤ j ∧ j < k) from decide_eq_decide.mpr (by omega)]
  · rw [decide_eq_false q]
    simp only [Res.bind_ok]
    rw [decide_eq_false (show ¬(i ≤ j ∧ j < k) by omega)]
theorem an_t {f g : Stt → Res Bool} {b c : Bool} (h : f st = .ok b st) (k : g st = .ok c st) : tAn f g st = .ok (b && c) st := by
  cases b <;> simp only [tAn, h, k, Res.bind_ok, Bool.false_eq_true, if_false, if_true, Bool.true_and, Bool.false_and]
theorem nt_t {f : Stt → Res Bool} {b : Bool} (h : f st = .ok b st) : tNt f st = .ok (!b) st := by
  simp only [tNt, h, Res.bind_ok]
theorem if_yes {ft : Stt → Res Bool} {g h : Stt → Fl} (t : ft st = .ok true st1) : gIf ft g h st = g st1 := by
  simp only [gIf, t, Res.fl, if_true]
theorem if_els {ft : Stt → Res Bool} {g h : Stt → Fl} (t : ft st = .ok false st1) : gIf ft g h st = h st1 := by
  simp only [gIf, t, Res.fl, Bool.false_eq_true, if_false]
theorem acons_at {fs : Stt → Res (List PV)} {l : List PV} (h1 : fa st = .ok p s1) (h2 : fs s1 = .ok l s2) : aCons fa fs st = .ok (p :: l) s2 := by
  unfold aCons
  rw [h1]
  simp only [Res.bind_ok, h2]
theorem tup_at {fl : Stt → Res (List PV)} {l : List PV} (ha : fl st = .ok l s1) (h : l.length ≤ 16777216) : eTup fl st = .ok (.tup l) s1 := by
  unfold eTup
  rw [ha]
  simp only [Res.bind_ok]
  rw [if_pos h]
theorem asgG_at {t : PV → Stt → Option Stt} (ha : fa st = .ok p s1) (h : t p s1 = some s2) : gAsg fa t st = .nx s2 := by
  unfold gAsg
  rw [ha]
  simp only [Res.fl, h, gOpt]
theorem par_at {fl : Stt → Res (List PV)} {a b : Nat} (ha : fl st = .ok [p, q] s1) (h : setV b q (setV a p s1) = s2) : gPar a b fl st = .nx s2 := by
  unfold gPar
  rw [ha, ← h]
  rfl
theorem call3v {m : List SV → List MO → FRes} {v : PV} (h1 : fa st = .ok p st) (h2 : fb st = .ok q st) (h3 : fc st = .ok r st) (e : m [.val p, .val q, .val r] [] = .ok v []) : eCall m (avN 3 (lPv fa (lPv fb (lPv fc lNil)))) st = .ok v st := by
  simp only [eCall, avN, lPv, lNil, h1, h2, h3, Res.bind_ok, List.length_cons, List.length_nil, Nat.reduceAdd, if_true, lowerA, distinct, getAll, setAll, e]
theorem eif_yes {t : Stt → Res Bool} {f g : Stt → Res PV} (h : t st = .ok true st) (k : f st = .ok p st) : eIf t f g st = .ok p st := by
  unfold eIf
  rw [h]
  simp only [Res.bind_ok, if_true, k]
theorem eif_no {t : Stt → Res Bool} {f g : Stt → Res PV} (h : t st = .ok false st) (k : g st = .ok p st) : eIf t f g st = .ok p st := by
  unfold eIf
  rw [h]
  simp only [Res.bind_ok, Bool.false_eq_true, if_false, k]
theorem callB1_at {op : List PV → Option PV} (ha : fa st = .ok p st) (h : op [p] = some r) : eCallB op (aCons fa aNil) st = .ok r st := by
  have q : aCons fa aNil st = .ok [p] st := acons_at ha rfl
  unfold eCallB
  rw [q]
  simp only [Res.bind_ok, h, Res.opt_some]
theorem one_nx {g : Stt → Fl} (h : g st = .nx s1) : gSeq g gNop st = .nx s1 := by
  rw [seq_nx h]
  rfl
theorem comp_at {vs : List Nat} {fi : Stt → Res (List PV)} {a : PV → Stt → Option Stt} {ft : Stt → Res Bool} {fe : Stt → Res PV} {l out : List PV} (hi : fi st = .ok l st) (h : compL vs a ft fe l [] (wipeS vs st) = .ok out s1) (hb : backS vs st s1 = s2) : frz (oComp vs fi a ft fe) st = .ok (.lst out) s2 := by
  unfold frz oComp
  rw [hi]
  simp only [Res.bind_ok, h, noEx, hb]
end
theorem up {x : Int} {m n : Nat} (h : x.natAbs < 2 ^ m) (hn : m ≤ n) : x.natAbs < 2 ^ n := Nat.lt_of_lt_of_le h (Nat.pow_le_pow_right (by decide) hn)
section
variable {g1 g2 : PV} {a b a2 b2 f1 s1 m1 f2 s2 m2 T1 T2 P d f x y xs ys : Int}
def bl (x xs m1 y ys m2 : Int) : List PV := (if xs = 0 then [] else [.tup [.int (rLo x xs m1), .int (rHi x xs m1)]]) ++ (if ys = 0 then [] else [.tup [.int (rLo y ys m2), .int (rHi y ys m2)]])
end
end PM
/-! PL50: comprehensions over mapped lists, loops over them. -/
namespace PM
open PySem PySem.Spec PyProof.Rows L2 PL PN
/-- the elements of a comprehension that keeps what asks for it -/
theorem compL_F {α : Type} {vs : List Nat} {a : PV → Stt → Option Stt} {ft : Stt → Res Bool} {fe : Stt → Res PV} {s : Stt} (g f : α → PV) (q : α → Bool) : ∀ (l : List α) (acc : List PV), acc.length + l.length ≤ 16777216 →
    (∀ x ∈ l, ∃ s1 s2, a (g x) s = some s1 ∧ ft s1 = .ok (q x) s2 ∧ (q x = false → wipeS vs s2 = s) ∧ (q x = true → ∃ s3, fe s2 = .ok (f x) s3 ∧ wipeS vs s3 = s)) →
    compL vs a ft fe (l.map g) acc s = .ok (acc ++ (l.filter q).map f) s
  | [], acc, _, _ => by simp [compL]
  | x :: r, acc, hl, h => by
    rw [List.length_cons] at hl
    obtain ⟨s1, s2, e1, e2, e3, e4⟩ := h x List.mem_cons_self
    rw [List.map_cons, compL_cons _ _ _ _ _ _ _ _ _ e1, e2, List.filter_cons]
    by_cases c : q x = true
    · obtain ⟨s3, e5, e6⟩ := e4 c
      rw [if_pos c]
      simp only [Res.bind_ok, c, if_true, e5]
      rw [if_pos (by omega), e6, compL_F g f q r (acc ++ [f x]) (by rw [List.length_append, List.length_singleton]; omega) fun y hy => h y (List.mem_cons_of_mem _ hy)]
      simp
    · have c := Bool.eq_false_iff.mpr c
      rw [c]
      simp only [Res.bind_ok, Bool.false_eq_true, if_false]
      rw [e3 c, compL_F g f q r acc (by omega) fun y hy => h y (List.mem_cons_of_mem _ hy)]
theorem filter_yes {α : Type} (l : List α) : l.filter (fun _ => true) = l := List.filter_eq_self.mpr fun _ _ => rfl
theorem compL_M {α : Type} {vs : List Nat} {a : PV → Stt → Option Stt} {fe : Stt → Res PV} {s : Stt} (g f : α → PV) (l : List α) (hl : l.length ≤ 16777216)
    (h : ∀ x ∈ l, ∃ s1, a (g x) s = some s1 ∧ ∃ s3, fe s1 = .ok (f x) s3 ∧ wipeS vs s3 = s) : compL vs a tYesD fe (l.map g) [] s = .ok (l.map f) s := by
  have := compL_F (vs := vs) (a := a) (ft := tYesD) (fe := fe) (s := s) g f (fun _ => true) l [] (by rw [List.length_nil]; omega) fun x hx => by
    obtain ⟨s1, e1, s3, e2, e3⟩ := h x hx
    exact ⟨s1, s1, e1, rfl, fun c => (Bool.noConfusion c), fun _ => ⟨s3, e2, e3⟩⟩
  rw [this, filter_yes, List.nil_append]
theorem for_consM {a : PV → Stt → Option Stt} {b : Stt → Fl} {s s1 s2 : Stt} {p : PV} {r : List PV} (h : a p s = some s1) (e : b s1 = .nx s2) : forL a b (p :: r) s = forL a b r s2 := by
  rw [forL_cons _ _ _ _ _ _ h, e]
theorem for_atM {fi : Stt → Res (List PV)} {a : PV → Stt → Option Stt} {b : Stt → Fl} {s s1 : Stt} {l : List PV} (hi : fi s = .ok l s1) : gFor fi a b s = forL a b l s1 := by
  unfold gFor
  rw [hi]
  rfl
theorem app_atM {st s2 : Stt} {i : Nat} {fe : Stt → Res PV} {p : PV} {l : List PV} (hg : getM st i = some (.inl i, .lst l)) (he : fe st = .ok p st) (hl : l.length < 16777216) (hs : setK st (.inl i) (.lst (l ++ [p])) = s2) : gApp i fe st = .nx s2 := by
  unfold gApp
  rw [hg]
  simp only [Option.elim_some, he, Res.fl, hg]
  rw [if_pos hl, hs]
theorem for_preM {α : Type} {a : PV → Stt → Option Stt} {b : Stt → Fl} (f : α → PV) (T : List α) (K : List α → Stt → Prop) (h : ∀ (pre : List α) (x : α) (suf : List α), T = pre ++ x :: suf → ∀ s, K pre s → ∃ s1, a (f x) s = some s1 ∧ ∃ s2, b s1 = .nx s2 ∧ K (pre ++ [x]) s2) :
    ∀ (l pre : List α) (s : Stt), T = pre ++ l → K pre s → ∃ s2, forL a b (l.map f) s = .nx s2 ∧ K T s2
  | [], pre, s, e, h0 => ⟨s, rfl, by rw [List.append_nil] at e; rw [e]; exact h0⟩
  | x :: l, pre, s, e, h0 => by
    obtain ⟨s1, e1, s2, e2, h2⟩ := h pre x l e s h0
    obtain ⟨s3, e3, h3⟩ := for_preM f T K h l (pre ++ [x]) s2 (by rw [e, List.append_assoc]; rfl) h2
    exact ⟨s3, by rw [List.map_cons, for_consM e1 e2]; exact e3, h3⟩
theorem sl_lM {st : Stt} {fa : Stt → Res PV} {fl fh : Stt → Res (Option Int)} {l : List PV} {lo hi : Option Int} (ha : fa st = .ok (.lst l) st) (hl : fl st = .ok lo st) (hh : fh st = .ok hi st) : eSl fa fl fh st = .ok (.lst (pCut l lo hi)) st := by
  unfold eSl
  rw [ha]
  simp only [Res.bind_ok, hl, hh]
theorem so_atM {st : Stt} {fa : Stt → Res PV} {i : Int} (h : fa st = .ok (.int i) st) : pSo fa st = .ok (some i) st := by
  simp only [pSo, h, Res.bind_ok]
theorem cb2M {st : Stt} {op : List PV → Option PV} {fa fb : Stt → Res PV} {p q r : PV} (ha : fa st = .ok p st) (hb : fb st = .ok q st) (h : op [p, q] = some r) : eCallB op (aCons fa (aCons fb aNil)) st = .ok r st := by
  unfold eCallB
  have e : aCons fa (aCons fb aNil) st = .ok [p, q] st := acons_at ha (acons_at hb rfl)
  rw [e]
  simp only [Res.bind_ok, h, Res.opt_some]
theorem cut_take (l : List PV) (i : Nat) : pCut l none (some (i : Int)) = l.take i := by
  unfold pCut
  rw [HT.sIx_none, HT.sIx_nat, List.drop_zero, Nat.sub_zero, ← List.take_eq_take_min]
end PM
/-! PCY: crossing_of. -/
namespace PM
open PySem PySem.Spec PyProof.Rows L2 PL PN
/-- a guard and a cell of bounded size -/
structure AccB (l h s r a b : Int) : Prop where
  g : isGuard l h s r = true
  bh : h.natAbs < 2 ^ 1000
  bs : s.natAbs < 2 ^ 1000
  ba : a.natAbs < 2 ^ 1000
  bb : b.natAbs < 2 ^ 1000
theorem lanes_ubG {l h s r : Int} (s0 : 0 < s) (l0 : 0 ≤ l) (r0 : 0 ≤ r) (r1 : r < s) (h0 : 0 ≤ h) : lanesOf l h s r ≤ h := by
  by_cases q : lanesOf l h s r ≤ 0
  · omega
  · have k1 := (lanes_lt (l := l) (h := h) (r := r) s0 (show 0 ≤ lanesOf l h s r - 1 by omega)).mp (by omega)
    have k2 := first_ge (l := l) (r := r) s0
    have k3 := Int.mul_le_mul_of_nonneg_right (show 1 ≤ s by omega) (show 0 ≤ lanesOf l h s r - 1 by omega)
    omega
theorem AccB.firstB {l h s r a b : Int} (p : AccB l h s r a b) : (firstOf l s r).natAbs < 2 ^ 1001 ∧ (lanesOf l h s r).natAbs < 2 ^ 1000 := by
  obtain ⟨l0, lh, r0, r1⟩ := guard_iff.mp p.g
  have s0 : 0 < s := by omega
  have f0 := first_ge (l := l) (r := r) s0
  have f1 := first_lt (l := l) (r := r) s0
  have bh := p.bh
  have bs := p.bs
  have m0 := lanes_nonneg l h s r
  have m1 := lanes_ubG s0 l0 r0 r1 (show 0 ≤ h by omega)
  have e : (2 : Nat) ^ 1001 = 2 ^ 1000 * 2 := Nat.pow_succ ..
  generalize (2 : Nat) ^ 1000 = A at *
  omega
end PM
/-! PCT: pairs counted, accesses and statements that touch. -/
namespace PM
open PySem PySem.Spec PyProof.Rows L2 PL PN
section
variable {l1 h1 s1 r1 a b l2 h2 s2 r2 a2 b2 c d c2 d2 : Int}
theorem AccB.s0 {l h s r a b : Int} (p : AccB l h s r a b) : 0 < s ∧ 0 ≤ r ∧ r < s := by
  obtain ⟨l0, lh, r0, r1⟩ := guard_iff.mp p.g
  omega
theorem AccB.okd {l h s r a b : Int} (p : AccB l h s r a b) : okDiv s = true := okDiv_of (by have := p.s0; omega) p.bs (by decide) (by decide)
end
end PM
/-! PCT2: accesses and statements that touch. -/
namespace PM
open PySem PySem.Spec PyProof.Rows L2 PL PN
theorem tru_t {st : Stt} {fa : Stt → Res PV} {z : Bool} (h : fa st = .ok (.bl z) st) : tTru fa st = .ok z st := by
  simp only [tTru, h, Res.bind_ok, pTru, Res.opt_some]
theorem any_i {st : Stt} {fa : Stt → Res PV} {l : List PV} (h : fa st = .ok (.lst l) st) : iAny fa st = .ok l st := by
  simp only [iAny, h, Res.bind_ok]
def Ac.word (p : Ac) : Str := if p.w then "write" else "read"
def Ac.pv (i : Int) (p : Ac) : PV := .tup [.int i, .str p.word, .str p.z, .int p.a, .int p.b]
theorem accOf_ac (i : Int) (x : Stm) : accOf i x = x.ac.map (Ac.pv i) := by
  obtain ⟨l, h, s, r, z, a, b, k⟩ := x
  cases k <;> rfl
/-- bounds of a statement's cells and integers -/
structure Stm.Bd (x : Stm) : Prop where
  ac : ∀ p ∈ x.ac, AccB x.l x.h x.s x.r p.a p.b
  val : ∀ c d, x.val = some (c, d) → AccB x.l x.h x.s x.r c d
theorem ac_nm {n : Int} {x : Stm} (o : x.ok n) : ∀ p ∈ x.ac, Nm p.z := by
  have hz := o.z
  have hk := o.k
  obtain ⟨l, h, s, r, z, a, b, k⟩ := x
  intro p hp
  cases k with
  | put c d =>
    simp only [Stm.ac, List.mem_cons, List.not_mem_nil, or_false] at hp
    subst hp; exact hz
  | move z2 c d e =>
    simp only [Stm.ac, List.mem_cons, List.not_mem_nil, or_false] at hp
    rcases hp with rfl | rfl
    · exact hk.1
    · exact hz
  | sum z2 c d z3 e f =>
    simp only [Stm.ac, List.mem_cons, List.not_mem_nil, or_false] at hp
    rcases hp with rfl | rfl | rfl
    · exact hk.1
    · exact hk.2.2.1
    · exact hz
theorem eqB_str {y z : Str} (h1 : PyData.strOk y = true) (h2 : PyData.strOk z = true) : pEqB (.str y) (.str z) = some (y == z) := by
  simp [pEqB, toD, SeqAt.shaped, PyData.canLay0, PyData.depth, PyData.eqv, h1, h2]
theorem word_ne : ((Str.ofString "read") == (Str.ofString "write")) = false ∧ ((Str.ofString "write") == (Str.ofString "write")) = true := by decide +kernel
theorem eq_tt {st : Stt} {fa : Stt → Res PV} {p q : PV} {z : Bool} (h : fa st = .ok p st) (k : pEqB p q = some z) : tOf (eBin pEq fa (eC q)) st = .ok z st := by
  simp only [tOf, eBin, h, eC, Res.bind_ok, pEq, k, Option.map_some, Res.opt_some]
/-! ### two fors -/
end PM
/-! PCK: plain maths: pairs of lanes counted, also by waves. -/
namespace PM
open PySem PySem.Spec PyProof.Rows L2 PL PN
theorem nodup_len {α : Type} [DecidableEq α] {l m : List α} (hl : l.Nodup) (hm : m.Nodup) (h : ∀ x, x ∈ l ↔ x ∈ m) : l.length = m.length :=
  Nat.le_antisymm (nodup_le hl fun x hx => (h x).mp hx) (nodup_le hm fun x hx => (h x).mpr hx)
theorem nodup_filter {α : Type} {l : List α} (h : l.Nodup) (p : α → Bool) : (l.filter p).Nodup := List.Pairwise.filter p h
/-! ### waves -/
/-! ### pairs with a difference -/
end PM
/-! PCF: sums of floors with greater numbers. -/
namespace PM
open PySem PySem.Spec PyProof.Rows L2 PL PN
local macro_rules | `(tactic| walk_at "ev") => `(tactic| try simp only [mOf, endF, start0, gSeq, gNop, gAsg, gRet, gRetO, gAsgO, gDrop, gIf, gOpt, gPar, gPar3, gAug, aName, asNil, asCons, aTup, aLst, setV, setO, eVar, eC, eBin, eUn, eTup, aNil, aCons, oLst, frz, eCall, oCall, avN, avK, permL, lNil, lPv, lSl, tOf, tTru, tNt, tAn, tOrr, eIf, eAn, eOr, eNt, eChain, eCallB, eIxM, gSetIx, getM, pTru, pAdd, pSub, pMul, pFdiv, pMod, pPow, pNeg, pLt, pLe, pGt, pGe, pIs, pIsNot, pAddI, pIx, pLen, pAbs, pMax2, pMin2, Res.bind_ok, Res.bind_ex, Res.bind_stuck, Res.fl_ok, Res.fl_ex, Res.fl_stuck, Res.opt_some, Res.opt_none, lowerA, PL.keyOf, getK, getAll, setAll, setK, distinct, List.map_cons, List.map_nil, List.length_cons, List.length_nil, List.replicate, List.cons_append, List.nil_append, List.append_nil, List.getElem?_cons_zero, List.getElem?_cons_succ, List.getElem?_nil, List.set_cons_zero, List.set_cons_succ, List.filterMap_cons, List.filterMap_nil, Option.bind_some, Option.map_some, Option.elim_some, if_true, if_false, Nat.reduceAdd, Nat.reduceSub, Nat.reduceEqDiff, Nat.reduceLeDiff, ↓reduceIte, Bool.false_eq_true, at0, at1, at2, at3, pEq, pNe, eqB_int, Option.some.injEq, decide_true, decide_false, not_true_eq_false, not_false_eq_true, Bool.and_true, ne_eq, reduceCtorEq, Bool.true_eq_false, Bool.not_true, Bool.not_false, frz, noEx, wipeS, wipeR, backS, backR, keepV, oComp, gFor, iAny, iRange1, iRange2, iRange3, iRangeW1, iRangeW2, eCallQ, oRgW2, oRgW, pInt1, iEnumQ, eDct, iTxt, eFld, eMake, gSetFld, eFldM, eTupV, putP, eLenSet, gFrz, Nat.reduceLT, oRg2, oRg1, oRg, tYesD, pIn, pNotIn, eSl, pNo, pSo, forL_nil, gApp, gParO, List.not_mem_nil, List.not_mem_nil])
local macro_rules | `(tactic| walk_at "evs") => `(tactic| simp only [*, mOf, endF, start0, gSeq, gNop, gAsg, gRet, gRetO, gAsgO, gDrop, gIf, gOpt, gPar, gPar3, gAug, aName, asNil, asCons, aTup, aLst, setV, setO, eVar, eC, eBin, eUn, eTup, aNil, aCons, oLst, frz, eCall, oCall, avN, avK, permL, lNil, lPv, lSl, tOf, tTru, tNt, tAn, tOrr, eIf, eAn, eOr, eNt, eChain, eCallB, eIxM, gSetIx, getM, pTru, pAdd, pSub, pMul, pFdiv, pMod, pPow, pNeg, pLt, pLe, pGt, pGe, pIs, pIsNot, pAddI, pIx, pLen, pAbs, pMax2, pMin2, Res.bind_ok, Res.bind_ex, Res.bind_stuck, Res.fl_ok, Res.fl_ex, Res.fl_stuck, Res.opt_some, Res.opt_none, lowerA, PL.keyOf, getK, getAll, setAll, setK, distinct, List.map_cons, List.map_nil, List.length_cons, List.length_nil, List.replicate, List.cons_append, List.nil_append, List.append_nil, List.getElem?_cons_zero, List.getElem?_cons_succ, List.getElem?_nil, List.set_cons_zero, List.set_cons_succ, List.filterMap_cons, List.filterMap_nil, Option.bind_some, Option.map_some, Option.elim_some, if_true, if_false, Nat.reduceAdd, Nat.reduceSub, Nat.reduceEqDiff, Nat.reduceLeDiff, ↓reduceIte, Bool.false_eq_true, at0, at1, at2, at3, pEq, pNe, eqB_int, Option.some.injEq, decide_true, decide_false, not_true_eq_false, not_false_eq_true, Bool.and_true, ne_eq, reduceCtorEq, Bool.true_eq_false, Bool.not_true, Bool.not_false, frz, noEx, wipeS, wipeR, backS, backR, keepV, oComp, gFor, iAny, iRange1, iRange2, iRange3, iRangeW1, iRangeW2, eCallQ, oRgW2, oRgW, pInt1, iEnumQ, eDct, iTxt, eFld, eMake, gSetFld, eFldM, eTupV, putP, eLenSet, gFrz, Nat.reduceLT, oRg2, oRg1, oRg, tYesD, pIn, pNotIn, eSl, pNo, pSo, forL_nil, gApp, gParO, List.not_mem_nil, List.not_mem_nil, eq_self, not_true_eq_false, not_false_eq_true, ix30, ix31, ix32, Bool.and_self, and_self, and_true, true_and])
end PM
/-! PCP: pairs of lanes in different waves, counted. -/
namespace PM
open PySem PySem.Spec PyProof.Rows L2 PL PN
section
variable {st s1 s2 : Stt}
theorem aug_at {i : Nat} {op : PV → PV → Option PV} {fe : Stt → Res PV} {p q z : PV} (h : st.ro[i]? = some (some (.val p))) (he : fe st = .ok q st) (ho : op p q = some z) (hs : setV i z st = s2) : gAug i op fe st = .nx s2 := by
  unfold gAug
  rw [h]
  simp only [he, Res.fl, ho, hs]
theorem rng_at' {a : Int} {n i : Nat} {p : PV} (h : (rng a n)[i]? = some p) : i < n ∧ p = .int (a + i) := by
  unfold rng at h
  rw [List.getElem?_map] at h
  obtain ⟨j, hj, rfl⟩ := Option.map_eq_some_iff.mp h
  obtain ⟨h1, h2⟩ := List.getElem?_eq_some_iff.mp hj
  rw [List.length_range] at h1
  rw [List.getElem_range] at h2
  subst h2
  exact ⟨h1, rfl⟩
end
/-! ### guards shifted, and met -/
end PM
/-! PCP2: pairs of a crossing, counted. -/
namespace PM
open PySem PySem.Spec PyProof.Rows L2 PL PN
end PM
/-! PCP3: races and harmful races of two accesses, counted. -/
namespace PM
open PySem PySem.Spec PyProof.Rows L2 PL PN
end PM
/-! PCP4: statements that need parting. -/
namespace PM
open PySem PySem.Spec PyProof.Rows L2 PL PN
end PM
/-! PRN: plain maths of the pair with a number. -/
namespace PM
open PySem PySem.Spec PyProof.Rows L2 PL PN
theorem listed_at {l h s r : Int} (hs : 0 < s) (h0 : 0 ≤ r) (h1 : r < s) {k : Nat} (hk : (k : Int) < lanesOf l h s r) : (listed l h s r)[k]? = some (firstOf l s r + s * k) := by
  rw [listed_eq hs h0 h1]
  unfold PN.numbered
  rw [List.getElem?_map, List.getElem?_range (by omega)]
  rfl
end PM
/-! PCL: the pair with a number, walked: lane_number, pair_at, pair_of_one at 0. -/
namespace PM
open PySem PySem.Spec PyProof.Rows L2 PL PN
theorem cmp_t {op : PV → PV → Option PV} {st : Stt} {fa fb : Stt → Res PV} {p q : PV} {z : Bool} (ha : fa st = .ok p st) (hb : fb st = .ok q st) (h : op p q = some (.bl z)) : tOf (eBin op fa fb) st = .ok z st := by
  unfold tOf
  rw [bin_at ha hb h]
  rfl
end PM
/-! PCL2: the pair with a number, walked: pair_at. -/
namespace PM
open PySem PySem.Spec PyProof.Rows L2 PL PN
section
variable {l h s r a b : Int}
theorem AccB.lane (P : AccB l h s r a b) {k : Nat} (hk : (k : Int) < lanesOf l h s r) : 0 ≤ firstOf l s r + s * k ∧ firstOf l s r + s * k < h := by
  have := isLane_listed.mpr (List.mem_of_getElem? (listed_at P.s0.1 P.s0.2.1 P.s0.2.2 hk))
  have g := guard_iff.mp P.g
  unfold isLane at this
  rw [decide_eq_true_iff] at this
  omega
theorem AccB.one (P : AccB l h s r a b) {k : Nat} (hk : (k : Int) < lanesOf l h s r) : AccB (firstOf l s r + s * k) (firstOf l s r + s * k + 1) 1 0 a b := by
  have L := P.lane hk
  have bh := P.bh
  exact ⟨guard_iff.mpr ⟨L.1, by omega, by decide, by decide⟩, by omega, by decide +kernel, P.ba, P.bb⟩
theorem AccB.sw {c d : Int} {l2 h2 s2 r2 : Int} (P : AccB l h s r a b) (V : AccB l2 h2 s2 r2 c d) : AccB l h s r c d := ⟨P.g, P.bh, P.bs, V.ba, V.bb⟩
end
end PM
/-! PCL3: races within one statement, walked: pair_of_one at 0, can_race, harmful_in, least_harmful. -/
namespace PM
open PySem PySem.Spec PyProof.Rows L2 PL PN
end PM
/-! PCL4: harmful races of two accesses in the same phase, counted, and the least one. -/
namespace PM
open PySem PySem.Spec PyProof.Rows L2 PL PN
end PM
/-! PCL5: harmful_in, least_harmful. -/
namespace PM
open PySem PySem.Spec PyProof.Rows L2 PL PN
end PM
/-! PCL6: the least harmful race within one statement. -/
namespace PM
open PySem PySem.Spec PyProof.Rows L2 PL PN
/-- the accesses with the numbers of their statements -/
def flat : Nat → List Stm → List (Nat × Stm × Ac)
  | _, [] => []
  | k, x :: xs => x.ac.map (fun p => (k, x, p)) ++ flat (k + 1) xs
theorem accs_flat : ∀ (k : Nat) (xs : List Stm), accs (k : Int) xs = (flat k xs).map fun t => Ac.pv (t.1 : Nat) t.2.2
  | _, [] => rfl
  | k, x :: xs => by
    have ih := accs_flat (k + 1) xs
    unfold accs flat
    rw [List.map_append, List.map_map, accOf_ac, show ((k : Int) + 1) = ((k + 1 : Nat) : Int) by omega, ih]
    rfl
theorem flat_mem : ∀ {k : Nat} {xs : List Stm} {t : Nat × Stm × Ac}, t ∈ flat k xs → k ≤ t.1 ∧ xs[t.1 - k]? = some t.2.1 ∧ t.2.2 ∈ t.2.1.ac
  | _, [], _, h => by cases h
  | k, x :: xs, t, h => by
    unfold flat at h
    rcases List.mem_append.mp h with h | h
    · obtain ⟨p, hp, rfl⟩ := List.mem_map.mp h
      exact ⟨Nat.le_refl _, by simp, hp⟩
    · obtain ⟨h1, h2, h3⟩ := flat_mem h
      refine ⟨by omega, ?_, h3⟩
      rw [show t.1 - k = (t.1 - (k + 1)) + 1 by omega, List.getElem?_cons_succ]
      exact h2
/-- a harmful race of two accesses of one statement that counts -/
def HitA (w : Int) (b : Bool) (x : Stm) (p q : Ac) (i j : Int) : Prop := p.z = q.z ∧ (p.w = true ∨ q.w = true) ∧ x.lane i ∧ x.lane j ∧ p.a * i + p.b = q.a * j + q.b ∧ (if b = true then i < j else ¬ i / w = j / w) ∧ ¬ Alike x i x j
def Hit (w : Int) (xs : List Stm) (u v : Nat) (i j : Int) : Prop := ∃ t x p q, (flat 0 xs)[u]? = some (t, x, p) ∧ (flat 0 xs)[v]? = some (t, x, q) ∧ HitA w (u == v) x p q i j
def Least (w : Int) (xs : List Stm) : Option (Nat × Nat × Int × Int) → Prop
  | none => ∀ u v i j, u ≤ v → ¬ Hit w xs u v i j
  | some (u, v, i, j) => u ≤ v ∧ Hit w xs u v i j ∧ ∀ u' v' i' j', u' ≤ v' → Hit w xs u' v' i' j' → u < u' ∨ u = u' ∧ (v < v' ∨ v = v' ∧ (i < i' ∨ i = i' ∧ j ≤ j'))
theorem Least.one {w : Int} {xs : List Stm} : ∀ {r r' : Option (Nat × Nat × Int × Int)}, Least w xs r → Least w xs r' → r = r'
  | none, none, _, _ => rfl
  | none, some (u, v, i, j), h, h' => absurd h'.2.1 (h _ _ _ _ h'.1)
  | some (u, v, i, j), none, h, h' => absurd h.2.1 (h' _ _ _ _ h.1)
  | some (u, v, i, j), some (u', v', i', j'), h, h' => by
    have a := h.2.2 _ _ _ _ h'.1 h'.2.1
    have b := h'.2.2 _ _ _ _ h.1 h.2.1
    obtain rfl : u = u' := by omega
    obtain rfl : v = v' := by omega
    obtain rfl : i = i' := by omega
    obtain rfl : j = j' := by omega
    rfl
/-! ### plain maths -/
end PM
/-! PCL7: stuck_in and stuck_race; the same far out. -/
namespace PM
open PySem PySem.Spec PyProof.Rows L2 PL PN
section
variable {n : Int} {xs : List Stm} {bs : List Int} {w : Int}
theorem accs_ltN : (accs 0 xs).length = (flat 0 xs).length := by
  rw [show accs 0 xs = accs ((0 : Nat) : Int) xs from rfl, accs_flat, List.length_map]
end
end PM
/-! PCM: races by their numbers: pair_of_one, count_in, race_at, nth_race. -/
namespace PM
open PySem PySem.Spec PyProof.Rows L2 PL PN
end PM
/-! PCM2: count_in, race_at, nth_race. -/
namespace PM
open PySem PySem.Spec PyProof.Rows L2 PL PN
end PM
/-! PDG: the degree of a wave: the greatest number of different cells in one bank. -/
namespace PN
open PL
theorem bz (m n : Nat) : ∃ x y : Int, (m : Int) * x + (n : Int) * y = (Nat.gcd m n : Int) := by
  induction m, n using Nat.gcd.induction with
  | H0 n => exact ⟨0, 1, by rw [Nat.gcd_zero_left]; omega⟩
  | H1 m n hm ih =>
    obtain ⟨x, y, h⟩ := ih
    rw [Nat.gcd_rec m n]
    refine ⟨y - (n / m : Int) * x, x, ?_⟩
    rw [← h]
    have e : ((n % m : Nat) : Int) = n - m * (n / m : Int) := by
      have := Int.emod_add_mul_ediv (n : Int) m
      rw [Int.natCast_emod]
      omega
    rw [e]
    grind
end PN
/-! PDG2: lines of a wave as different numbers; degrees of all waves. -/
namespace PN
open PL
/-! ### different numbers -/
/-! ### degrees of all waves -/
end PN
/-! PDG3: the walks of the degrees. -/
namespace PM
open PySem PySem.Spec PyProof.Rows L2 PL PN
end PM
/-! PMW: the mirrors of written.py (gen.py --pm prints them at the end of PM). -/
namespace PM
open PySem PySem.Spec PyProof.Rows L2 PL
noncomputable def g_check_array : Stt → Fl :=
  (gSeq (gIf (tNt (tTru (eCall m_is_array (avN 1 (lPv (eVar 0) lNil)))))
  (gSeq (gRaise "InvalidArray" (eVar 0))
  gNop)
  gNop)
  gNop)
noncomputable def m_check_array : List SV → List MO → FRes := mOf 1 g_check_array
noncomputable def g_count_union (selfm : List SV → List MO → FRes) : Stt → Fl :=
  (gSeq (gAsg (eC (.int 0)) (aName 1))
  (gSeq (gFor (iEnumQ (aCons (eVar 0) aNil)) (aTup 2 (asCons (aName 2) (asCons (aName 3) asNil)))
  (gSeq (gAsg (frz (oComp [5] (iAny (eSl (eVar 0) pNo (pSo (eVar 2)))) (aName 5) tYesD (eCall PM.m_meeting (avN 2 (lPv (eVar 3) (lPv (eVar 5) lNil)))))) (aName 4))
  (gSeq (gAug 1 pAddI (eBin pSub (eCall PM.m_lanes_of (avN 1 (lPv (eVar 3) lNil))) (eCall selfm (avN 1 (lPv (frz (oComp [6] (iAny (eVar 4)) (aName 6) (tOf (eBin pIsNot (eVar 6) (eC .non))) (eVar 6))) lNil)))))
  gNop)))
  (gSeq (gRet (eVar 1))
  gNop)))
noncomputable def m_count_union_r : Nat → List SV → List MO → FRes
  | 0 => fun _ _ => .stuck
  | n + 1 => mOf 7 (g_count_union (m_count_union_r n))
noncomputable def m_count_union : List SV → List MO → FRes := m_count_union_r 14
noncomputable def g_cells_of : Stt → Fl :=
  (gSeq (gPar 3 4 (aCons (eCall PM.m_first_of (avN 1 (lPv (eVar 0) lNil))) (aCons (eCall PM.m_lanes_of (avN 1 (lPv (eVar 0) lNil))) aNil)))
  (gSeq (gIf (tOf (eBin pEq (eVar 1) (eC (.int 0))))
  (gSeq (gRet (eTup (aCons (eVar 2) (aCons (eBin pAdd (eVar 2) (eC (.int 1))) (aCons (eC (.int 1)) (aCons (eC (.int 0)) aNil))))))
  gNop)
  gNop)
  (gSeq (gAsg (eBin pMul (eCallB pAbs (aCons (eVar 1) aNil)) (eBin pIx (eVar 0) (eC (.int 2)))) (aName 5))
  (gSeq (gAsg (eIf (tOf (eBin pGt (eVar 1) (eC (.int 0)))) (eBin pAdd (eBin pMul (eVar 1) (eVar 3)) (eVar 2)) (eBin pAdd (eBin pMul (eVar 1) (eBin pAdd (eVar 3) (eBin pMul (eBin pIx (eVar 0) (eC (.int 2))) (eBin pSub (eVar 4) (eC (.int 1)))))) (eVar 2))) (aName 6))
  (gSeq (gRet (eTup (aCons (eVar 6) (aCons (eBin pAdd (eBin pAdd (eVar 6) (eBin pMul (eVar 5) (eBin pSub (eVar 4) (eC (.int 1))))) (eC (.int 1))) (aCons (eVar 5) (aCons (eBin pMod (eVar 6) (eVar 5)) aNil))))))
  gNop)))))
noncomputable def m_cells_of : List SV → List MO → FRes := mOf 7 g_cells_of
noncomputable def g_written_rows : Stt → Fl :=
  (gSeq (gAsgO 2 (oLst aNil))
  (gSeq (gFor (iAny (eCall PM.m_access_list (avN 1 (lPv (eVar 0) lNil)))) (aTup 5 (asCons (aName 3) (asCons (aName 4) (asCons (aName 5) (asCons (aName 6) (asCons (aName 7) asNil))))))
  (gSeq (gAsg (eBin pIx (eBin pIx (eFld "Kernel" "kept_statements" (eVar 0)) (eVar 3)) (eC (.int 1))) (aName 8))
  (gSeq (gIf (tAn (tOf (eBin pEq (eVar 4) (eC (.str "write")))) (tAn (tOf (eBin pEq (eVar 5) (eVar 1))) (tOf (eBin pGt (eCall PM.m_lanes_of (avN 1 (lPv (eVar 8) lNil))) (eC (.int 0))))))
  (gSeq (gApp 2 (eCall PM.m_cells_of (avN 3 (lPv (eVar 8) (lPv (eVar 6) (lPv (eVar 7) lNil))))))
  gNop)
  gNop)
  gNop)))
  (gSeq (gRet (frz (oMv 2)))
  gNop)))
noncomputable def m_written_rows : List SV → List MO → FRes := mOf 9 g_written_rows
noncomputable def g_count_written : Stt → Fl :=
  (gSeq (gDrop (eCall PM.m_check_array (avN 1 (lPv (eVar 1) lNil))))
  (gSeq (gRet (eCall PM.m_count_union (avN 1 (lPv (eCall PM.m_written_rows (avN 2 (lPv (eVar 0) (lPv (eVar 1) lNil)))) lNil))))
  gNop))
noncomputable def m_count_written : List SV → List MO → FRes := mOf 2 g_count_written
noncomputable def g_is_written : Stt → Fl :=
  (gSeq (gDrop (eCall PM.m_check_array (avN 1 (lPv (eVar 1) lNil))))
  (gSeq (gRet (eCallB pAny (aCons (frz (oComp [3] (iAny (eCall PM.m_written_rows (avN 2 (lPv (eVar 0) (lPv (eVar 1) lNil))))) (aName 3) tYesD (eCall PM.m_has (avN 2 (lPv (eVar 3) (lPv (eVar 2) lNil)))))) aNil)))
  gNop))
noncomputable def m_is_written : List SV → List MO → FRes := mOf 4 g_is_written
noncomputable def g_rows_below : Stt → Fl :=
  (gSeq (gAsg (frz (oComp [3, 4, 5, 6] (iAny (eVar 0)) (aTup 4 (asCons (aName 3) (asCons (aName 4) (asCons (aName 5) (asCons (aName 6) asNil))))) tYesD (eTup (aCons (eVar 3) (aCons (eCallB pMin2 (aCons (eVar 4) (aCons (eVar 1) aNil))) (aCons (eVar 5) (aCons (eVar 6) aNil))))))) (aName 2))
  (gSeq (gRet (frz (oComp [7] (iAny (eVar 2)) (aName 7) (tAn (tOf (eBin pLt (eBin pIx (eVar 7) (eC (.int 0))) (eBin pIx (eVar 7) (eC (.int 1))))) (tOf (eBin pGt (eCall PM.m_lanes_of (avN 1 (lPv (eVar 7) lNil))) (eC (.int 0))))) (eVar 7))))
  gNop))
noncomputable def m_rows_below : List SV → List MO → FRes := mOf 8 g_rows_below
noncomputable def g_nth_written : Stt → Fl :=
  (gSeq (gDrop (eCall m_check_array (avN 1 (lPv (eVar 1) lNil))))
  (gSeq (gAsg (eCall m_written_rows (avN 2 (lPv (eVar 0) (lPv (eVar 1) lNil)))) (aName 3))
  (gSeq (gIf (tNt (tOf (eChain pLe pLt (eC (.int 0)) (eVar 2) (eCall m_count_union (avN 1 (lPv (eVar 3) lNil))))))
  (gSeq (gRaise "InvalidNumber" (eVar 2))
  gNop)
  gNop)
  (gSeq (gPar 4 5 (aCons (eCallB pMin1 (aCons (frz (oComp [7] (iAny (eVar 3)) (aName 7) tYesD (eBin pIx (eVar 7) (eC (.int 0))))) aNil)) (aCons (eCallB pMax1 (aCons (frz (oComp [7] (iAny (eVar 3)) (aName 7) tYesD (eBin pIx (eVar 7) (eC (.int 1))))) aNil)) aNil)))
  (gSeq (gWhile (tOf (eBin pLt (eVar 4) (eVar 5)))
  (gSeq (gAsg (eBin pFdiv (eBin pAdd (eVar 4) (eVar 5)) (eC (.int 2))) (aName 6))
  (gSeq (gIf (tOf (eBin pGt (eCall m_count_union (avN 1 (lPv (eCall m_rows_below (avN 2 (lPv (eVar 3) (lPv (eBin pAdd (eVar 6) (eC (.int 1))) lNil)))) lNil))) (eVar 2)))
  (gSeq (gAsg (eVar 6) (aName 5))
  gNop)
  (gSeq (gAsg (eBin pAdd (eVar 6) (eC (.int 1))) (aName 4))
  gNop))
  gNop)))
  (gSeq (gRet (eVar 4))
  gNop))))))
noncomputable def m_nth_written : List SV → List MO → FRes := mOf 8 g_nth_written
noncomputable def g_written_below : Stt → Fl :=
  (gSeq (gDrop (eCall PM.m_check_array (avN 1 (lPv (eVar 1) lNil))))
  (gSeq (gRet (eCall PM.m_count_union (avN 1 (lPv (eCall PM.m_rows_below (avN 2 (lPv (eCall PM.m_written_rows (avN 2 (lPv (eVar 0) (lPv (eVar 1) lNil)))) (lPv (eVar 2) lNil)))) lNil))))
  gNop))
noncomputable def m_written_below : List SV → List MO → FRes := mOf 3 g_written_below
end PM
/-! PWU (plain): how many integers fulfil something; rows of integers. -/
namespace PM
open PySem PySem.Spec PyProof.Rows L2 PL PN
/-- as many integers as n fulfil P -/
def Cnt (P : Int → Prop) (n : Nat) : Prop := ∃ L : List Int, L.Nodup ∧ (∀ z, z ∈ L ↔ P z) ∧ L.length = n
theorem Cnt.cg {P Q : Int → Prop} {n : Nat} (h : Cnt P n) (e : ∀ z, P z ↔ Q z) : Cnt Q n := by
  obtain ⟨L, h1, h2, h3⟩ := h
  exact ⟨L, h1, fun z => (h2 z).trans (e z), h3⟩
theorem Cnt.one {P : Int → Prop} {n m : Nat} (h : Cnt P n) (k : Cnt P m) : n = m := by
  obtain ⟨L, h1, h2, rfl⟩ := h
  obtain ⟨M, k1, k2, rfl⟩ := k
  exact nodup_len h1 k1 fun z => (h2 z).trans (k2 z).symm
theorem Cnt.none {P : Int → Prop} (h : ∀ z, ¬ P z) : Cnt P 0 := ⟨[], .nil, fun z => ⟨fun k => (by cases k), fun k => absurd k (h z)⟩, rfl⟩
theorem Cnt.le {P Q : Int → Prop} {n m : Nat} (h : Cnt P n) (k : Cnt Q m) (e : ∀ z, P z → Q z) : n ≤ m := by
  obtain ⟨L, h1, h2, rfl⟩ := h
  obtain ⟨M, k1, k2, rfl⟩ := k
  exact nodup_le h1 fun z hz => (k2 z).mpr (e z ((h2 z).mp hz))
theorem Cnt.pos {P : Int → Prop} {n : Nat} (h : Cnt P n) : 0 < n ↔ ∃ z, P z := by
  obtain ⟨L, h1, h2, rfl⟩ := h
  constructor
  · intro k
    exact ⟨L[0], (h2 _).mp (List.getElem_mem k)⟩
  · rintro ⟨z, hz⟩
    exact List.length_pos_of_mem ((h2 z).mpr hz)
theorem Cnt.add {P Q : Int → Prop} {a b c : Nat} (h1 : Cnt P a) (h2 : Cnt Q b) (h3 : Cnt (fun z => P z ∧ Q z) c) : c ≤ b ∧ Cnt (fun z => P z ∨ Q z) (a + (b - c)) := by
  refine ⟨h3.le h2 fun z h => h.2, ?_⟩
  obtain ⟨A, a1, a2, rfl⟩ := h1
  obtain ⟨B, b1, b2, rfl⟩ := h2
  have e : Cnt (fun z => P z ∧ Q z) (B.filter fun z => decide (z ∈ A)).length := ⟨_, nodup_filter b1 _, fun z => by rw [List.mem_filter, decide_eq_true_iff, a2, b2]; exact And.comm, rfl⟩
  have e2 := h3.one e
  refine ⟨A ++ B.filter (fun z => !decide (z ∈ A)), ?_, fun z => ?_, ?_⟩
  · rw [List.nodup_append]
    refine ⟨a1, nodup_filter b1 _, fun x hx y hy e => ?_⟩
    subst e
    have := (List.mem_filter.mp hy).2
    rw [decide_eq_true hx] at this
    cases this
  · rw [List.mem_append, List.mem_filter]
    constructor
    · rintro (h | h)
      · exact .inl ((a2 z).mp h)
      · exact .inr ((b2 z).mp h.1)
    · rintro (h | h)
      · exact .inl ((a2 z).mpr h)
      · by_cases q : z ∈ A
        · exact .inl q
        · exact .inr ⟨(b2 z).mpr h, by rw [decide_eq_false q]; rfl⟩
  · have := List.length_eq_countP_add_countP (fun z => decide (z ∈ A)) (l := B)
    rw [List.countP_eq_length_filter, List.countP_eq_length_filter, ← e2] at this
    rw [List.length_append]
    have e3 : (B.filter fun z => !decide (z ∈ A)) = B.filter fun a => decide ¬decide (a ∈ A) = true := List.filter_congr fun z _ => by
      by_cases q : z ∈ A <;> simp [q]
    rw [e3]
    omega
/-! ### rows -/
structure Rw where
  l : Int
  h : Int
  s : Int
  r : Int
def Rw.In (R : Rw) (z : Int) : Prop := R.l ≤ z ∧ z < R.h ∧ z % R.s = R.r
/-- a row whose step divides M -/
structure Rw.Ok (M : Int) (R : Rw) : Prop where
  s0 : 0 < R.s
  r0 : 0 ≤ R.r
  r1 : R.r < R.s
  dv : R.s ∣ M
def InL (rows : List Rw) (z : Int) : Prop := ∃ R ∈ rows, R.In z
theorem Rw.cnt {R : Rw} (g : 0 < R.s ∧ 0 ≤ R.r ∧ R.r < R.s) : ∃ n : Nat, lanesOf R.l R.h R.s R.r = n ∧ Cnt R.In n :=
  ⟨(listed R.l R.h R.s R.r).length, (listed_len g.1 g.2.1 g.2.2).symm, _, nodup_listed _ _ _ _, fun _ => mem_listed, rfl⟩
theorem InL.nil : Cnt (InL []) 0 := Cnt.none fun z h => by
  obtain ⟨R, hR, _⟩ := h
  cases hR
theorem InL.snoc {rows : List Rw} {R : Rw} {a b c : Nat} (h1 : Cnt (InL rows) a) (h2 : Cnt R.In b) (h3 : Cnt (fun z => InL rows z ∧ R.In z) c) : c ≤ b ∧ Cnt (InL (rows ++ [R])) (a + (b - c)) := by
  obtain ⟨e1, e2⟩ := h1.add h2 h3
  refine ⟨e1, e2.cg fun z => ?_⟩
  constructor
  · rintro (⟨O, hO, k⟩ | k)
    · exact ⟨O, List.mem_append.mpr (.inl hO), k⟩
    · exact ⟨R, List.mem_append.mpr (.inr (List.mem_singleton.mpr rfl)), k⟩
  · rintro ⟨O, hO, k⟩
    rcases List.mem_append.mp hO with hO | hO
    · exact .inl ⟨O, hO, k⟩
    · rw [List.mem_singleton] at hO
      subst hO
      exact .inr k
/-- the cells a * lane + b of a row with lanes -/
def Rw.cells (R : Rw) (a b : Int) : Rw := if a = 0 then ⟨b, b + 1, 1, 0⟩ else
  let s := a.natAbs * R.s
  let n := lanesOf R.l R.h R.s R.r
  let f := firstOf R.l R.s R.r
  let t := if 0 < a then a * f + b else a * (f + R.s * (n - 1)) + b
  ⟨t, t + s * (n - 1) + 1, s, t % s⟩
theorem Rw.lane_iff {R : Rw} (g : 0 < R.s ∧ 0 ≤ R.r ∧ R.r < R.s) {z : Int} : R.In z ↔ ∃ k, (0 ≤ k ∧ k < lanesOf R.l R.h R.s R.r) ∧ z = firstOf R.l R.s R.r + R.s * k := by
  have := isLane_iff (l := R.l) (h := R.h) (i := z) g.1 g.2.1 g.2.2
  unfold isLane at this
  rw [decide_eq_true_iff] at this
  exact this
theorem step_iff {t s n z : Int} (hs : 0 < s) : (t ≤ z ∧ z < t + s * (n - 1) + 1 ∧ z % s = t % s) ↔ ∃ k, (0 ≤ k ∧ k < n) ∧ z = t + s * k := by
  constructor
  · rintro ⟨h1, h2, h3⟩
    have hd : s ∣ z - t := Int.dvd_of_emod_eq_zero (by rw [Int.sub_emod, h3, Int.sub_self, Int.zero_emod])
    obtain ⟨k, hk⟩ := hd
    refine ⟨k, ⟨?_, ?_⟩, by omega⟩
    · refine Classical.byContradiction fun q => ?_
      have : s * k ≤ s * (-1) := Int.mul_le_mul_of_nonneg_left (by omega) (by omega)
      omega
    · refine Classical.byContradiction fun q => ?_
      have : s * n ≤ s * k := Int.mul_le_mul_of_nonneg_left (by omega) (by omega)
      rw [Int.mul_sub] at h2
      omega
  · rintro ⟨k, ⟨k0, k1⟩, rfl⟩
    have a1 : 0 ≤ s * k := Int.mul_nonneg (by omega) k0
    have a2 : s * k ≤ s * (n - 1) := Int.mul_le_mul_of_nonneg_left (by omega) (by omega)
    exact ⟨by omega, by omega, by rw [Int.add_mul_emod_self_left]⟩
theorem Rw.cells_in {R : Rw} (g : 0 < R.s ∧ 0 ≤ R.r ∧ R.r < R.s) (hl : 0 < lanesOf R.l R.h R.s R.r) {a b z : Int} : (R.cells a b).In z ↔ ∃ i, R.In i ∧ z = a * i + b := by
  unfold Rw.cells
  by_cases q : a = 0
  · rw [if_pos q]
    subst q
    show (b ≤ z ∧ z < b + 1 ∧ z % 1 = 0) ↔ _
    constructor
    · rintro ⟨h1, h2, _⟩
      exact ⟨_, (Rw.lane_iff g).mpr ⟨0, ⟨by omega, hl⟩, rfl⟩, by omega⟩
    · rintro ⟨i, _, h⟩
      omega
  · rw [if_neg q]
    obtain ⟨n, hn⟩ : ∃ n, n = lanesOf R.l R.h R.s R.r := ⟨_, rfl⟩
    obtain ⟨f, hf⟩ : ∃ f, f = firstOf R.l R.s R.r := ⟨_, rfl⟩
    have hi : ∀ i, R.In i ↔ ∃ k, (0 ≤ k ∧ k < n) ∧ i = f + R.s * k := fun i => by rw [hn, hf]; exact Rw.lane_iff g
    simp only [← hn, ← hf]
    have hs : 0 < (a.natAbs : Int) * R.s := Int.mul_pos (by omega) g.1
    refine (step_iff hs).trans ?_
    by_cases p : 0 < a
    · rw [if_pos p]
      have ea : (a.natAbs : Int) = a := by omega
      rw [ea]
      constructor
      · rintro ⟨k, hk, rfl⟩
        exact ⟨f + R.s * k, (hi _).mpr ⟨k, hk, rfl⟩, by show a * f + b + a * R.s * k = a * (f + R.s * k) + b; rw [Int.mul_add, ← Int.mul_assoc]; omega⟩
      · rintro ⟨i, h, rfl⟩
        obtain ⟨k, hk, rfl⟩ := (hi i).mp h
        exact ⟨k, hk, by show a * (f + R.s * k) + b = a * f + b + a * R.s * k; rw [Int.mul_add, ← Int.mul_assoc]; omega⟩
    · rw [if_neg p]
      have ea : (a.natAbs : Int) = -a := by omega
      rw [ea]
      constructor
      · rintro ⟨k, hk, rfl⟩
        refine ⟨f + R.s * (n - 1 - k), (hi _).mpr ⟨n - 1 - k, by omega, rfl⟩, ?_⟩
        grind
      · rintro ⟨i, h, rfl⟩
        obtain ⟨k, hk, rfl⟩ := (hi i).mp h
        refine ⟨n - 1 - k, by omega, ?_⟩
        grind
theorem Rw.cells_ok {R : Rw} {M a b : Int} (g : 0 < R.s) (hM : a ≠ 0 → (a.natAbs : Int) * R.s ∣ M) : (R.cells a b).Ok M := by
  unfold Rw.cells
  by_cases q : a = 0
  · rw [if_pos q]
    exact ⟨(by decide : (0 : Int) < 1), Int.le_refl 0, (by decide : (0 : Int) < 1), Int.one_dvd _⟩
  · rw [if_neg q]
    have hs : 0 < (a.natAbs : Int) * R.s := Int.mul_pos (by omega) g
    exact ⟨hs, Int.emod_nonneg _ (by omega), Int.emod_lt_of_pos _ hs, hM q⟩
end PM
/-! PWV: written.py walked (printed by mkpwv.py). -/
namespace PM
open PySem PySem.Spec PyProof.Rows L2 PL PN
noncomputable def l_rows_below_1c : PV → Stt → Option Stt := (aTup 4 (asCons (aName 3) (asCons (aName 4) (asCons (aName 5) (asCons (aName 6) asNil)))))
noncomputable def l_rows_below_1d : Stt → Res Bool := tYesD
noncomputable def l_rows_below_1e : Stt → Res PV := (eTup (aCons (eVar 3) (aCons (eCallB pMin2 (aCons (eVar 4) (aCons (eVar 1) aNil))) (aCons (eVar 5) (aCons (eVar 6) aNil)))))
noncomputable def l_rows_below_2c : PV → Stt → Option Stt := (aName 7)
noncomputable def l_rows_below_2d : Stt → Res Bool := (tAn (tOf (eBin pLt (eBin pIx (eVar 7) (eC (.int 0))) (eBin pIx (eVar 7) (eC (.int 1))))) (tOf (eBin pGt (eCall PM.m_lanes_of (avN 1 (lPv (eVar 7) lNil))) (eC (.int 0)))))
noncomputable def l_rows_below_2e : Stt → Res PV := (eVar 7)
noncomputable def q_rows_below_1 : Stt → Fl := (gAsg (frz (oComp [3, 4, 5, 6] (iAny (eVar 0)) l_rows_below_1c l_rows_below_1d l_rows_below_1e)) (aName 2))
noncomputable def q_rows_below_2 : Stt → Fl := (gRet (frz (oComp [7] (iAny (eVar 2)) l_rows_below_2c l_rows_below_2d l_rows_below_2e)))
theorem g_rows_below_eq : g_rows_below = (gSeq q_rows_below_1 (gSeq q_rows_below_2 gNop)) := rfl
noncomputable def q_cells_of_1 : Stt → Fl := (gPar 3 4 (aCons (eCall PM.m_first_of (avN 1 (lPv (eVar 0) lNil))) (aCons (eCall PM.m_lanes_of (avN 1 (lPv (eVar 0) lNil))) aNil)))
noncomputable def q_cells_of_2 : Stt → Fl := (gIf (tOf (eBin pEq (eVar 1) (eC (.int 0)))) (gSeq (gRet (eTup (aCons (eVar 2) (aCons (eBin pAdd (eVar 2) (eC (.int 1))) (aCons (eC (.int 1)) (aCons (eC (.int 0)) aNil)))))) gNop) gNop)
noncomputable def q_cells_of_3 : Stt → Fl := (gAsg (eBin pMul (eCallB pAbs (aCons (eVar 1) aNil)) (eBin pIx (eVar 0) (eC (.int 2)))) (aName 5))
noncomputable def q_cells_of_4 : Stt → Fl := (gAsg (eIf (tOf (eBin pGt (eVar 1) (eC (.int 0)))) (eBin pAdd (eBin pMul (eVar 1) (eVar 3)) (eVar 2)) (eBin pAdd (eBin pMul (eVar 1) (eBin pAdd (eVar 3) (eBin pMul (eBin pIx (eVar 0) (eC (.int 2))) (eBin pSub (eVar 4) (eC (.int 1)))))) (eVar 2))) (aName 6))
noncomputable def q_cells_of_5 : Stt → Fl := (gRet (eTup (aCons (eVar 6) (aCons (eBin pAdd (eBin pAdd (eVar 6) (eBin pMul (eVar 5) (eBin pSub (eVar 4) (eC (.int 1))))) (eC (.int 1))) (aCons (eVar 5) (aCons (eBin pMod (eVar 6) (eVar 5)) aNil))))))
theorem g_cells_of_eq : g_cells_of = (gSeq q_cells_of_1 (gSeq q_cells_of_2 (gSeq q_cells_of_3 (gSeq q_cells_of_4 (gSeq q_cells_of_5 gNop))))) := rfl
noncomputable def l_written_rows_1b : PV → Stt → Option Stt := (aTup 5 (asCons (aName 3) (asCons (aName 4) (asCons (aName 5) (asCons (aName 6) (asCons (aName 7) asNil))))))
noncomputable def l_written_rows_1c_s1 : Stt → Fl := (gAsg (eBin pIx (eBin pIx (eFld "Kernel" "kept_statements" (eVar 0)) (eVar 3)) (eC (.int 1))) (aName 8))
noncomputable def l_written_rows_1c_s2 : Stt → Fl := (gIf (tAn (tOf (eBin pEq (eVar 4) (eC (.str "write")))) (tAn (tOf (eBin pEq (eVar 5) (eVar 1))) (tOf (eBin pGt (eCall PM.m_lanes_of (avN 1 (lPv (eVar 8) lNil))) (eC (.int 0)))))) (gSeq (gApp 2 (eCall PM.m_cells_of (avN 3 (lPv (eVar 8) (lPv (eVar 6) (lPv (eVar 7) lNil)))))) gNop) gNop)
noncomputable def l_written_rows_1c : Stt → Fl := (gSeq l_written_rows_1c_s1 (gSeq l_written_rows_1c_s2 gNop))
noncomputable def q_written_rows_1 : Stt → Fl := (gAsgO 2 (oLst aNil))
noncomputable def q_written_rows_2 : Stt → Fl := (gFor (iAny (eCall PM.m_access_list (avN 1 (lPv (eVar 0) lNil)))) l_written_rows_1b l_written_rows_1c)
noncomputable def q_written_rows_3 : Stt → Fl := (gRet (frz (oMv 2)))
theorem g_written_rows_eq : g_written_rows = (gSeq q_written_rows_1 (gSeq q_written_rows_2 (gSeq q_written_rows_3 gNop))) := rfl
noncomputable def l_nth_written_1c : PV → Stt → Option Stt := (aName 7)
noncomputable def l_nth_written_1d : Stt → Res Bool := tYesD
noncomputable def l_nth_written_1e : Stt → Res PV := (eBin pIx (eVar 7) (eC (.int 0)))
noncomputable def l_nth_written_2c : PV → Stt → Option Stt := (aName 7)
noncomputable def l_nth_written_2d : Stt → Res Bool := tYesD
noncomputable def l_nth_written_2e : Stt → Res PV := (eBin pIx (eVar 7) (eC (.int 1)))
noncomputable def l_nth_written_3a : Stt → Res Bool := (tOf (eBin pLt (eVar 4) (eVar 5)))
noncomputable def l_nth_written_3b_s1 : Stt → Fl := (gAsg (eBin pFdiv (eBin pAdd (eVar 4) (eVar 5)) (eC (.int 2))) (aName 6))
noncomputable def l_nth_written_3b_s2 : Stt → Fl := (gIf (tOf (eBin pGt (eCall PM.m_count_union (avN 1 (lPv (eCall PM.m_rows_below (avN 2 (lPv (eVar 3) (lPv (eBin pAdd (eVar 6) (eC (.int 1))) lNil)))) lNil))) (eVar 2))) (gSeq (gAsg (eVar 6) (aName 5)) gNop) (gSeq (gAsg (eBin pAdd (eVar 6) (eC (.int 1))) (aName 4)) gNop))
noncomputable def l_nth_written_3b : Stt → Fl := (gSeq l_nth_written_3b_s1 (gSeq l_nth_written_3b_s2 gNop))
noncomputable def q_nth_written_1 : Stt → Fl := (gDrop (eCall PM.m_check_array (avN 1 (lPv (eVar 1) lNil))))
noncomputable def q_nth_written_2 : Stt → Fl := (gAsg (eCall PM.m_written_rows (avN 2 (lPv (eVar 0) (lPv (eVar 1) lNil)))) (aName 3))
noncomputable def q_nth_written_3 : Stt → Fl := (gIf (tNt (tOf (eChain pLe pLt (eC (.int 0)) (eVar 2) (eCall PM.m_count_union (avN 1 (lPv (eVar 3) lNil)))))) (gSeq (gRaise "InvalidNumber" (eVar 2)) gNop) gNop)
noncomputable def q_nth_written_4 : Stt → Fl := (gPar 4 5 (aCons (eCallB pMin1 (aCons (frz (oComp [7] (iAny (eVar 3)) l_nth_written_1c l_nth_written_1d l_nth_written_1e)) aNil)) (aCons (eCallB pMax1 (aCons (frz (oComp [7] (iAny (eVar 3)) l_nth_written_2c l_nth_written_2d l_nth_written_2e)) aNil)) aNil)))
noncomputable def q_nth_written_5 : Stt → Fl := (gWhile l_nth_written_3a l_nth_written_3b)
noncomputable def q_nth_written_6 : Stt → Fl := (gRet (eVar 4))
theorem g_nth_written_eq : g_nth_written = (gSeq q_nth_written_1 (gSeq q_nth_written_2 (gSeq q_nth_written_3 (gSeq q_nth_written_4 (gSeq q_nth_written_5 (gSeq q_nth_written_6 gNop)))))) := rfl
noncomputable def l_is_written_1c : PV → Stt → Option Stt := (aName 3)
noncomputable def l_is_written_1d : Stt → Res Bool := tYesD
noncomputable def l_is_written_1e : Stt → Res PV := (eCall PM.m_has (avN 2 (lPv (eVar 3) (lPv (eVar 2) lNil))))
noncomputable def q_is_written_1 : Stt → Fl := (gDrop (eCall PM.m_check_array (avN 1 (lPv (eVar 1) lNil))))
noncomputable def q_is_written_2 : Stt → Fl := (gRet (eCallB pAny (aCons (frz (oComp [3] (iAny (eCall PM.m_written_rows (avN 2 (lPv (eVar 0) (lPv (eVar 1) lNil))))) l_is_written_1c l_is_written_1d l_is_written_1e)) aNil)))
theorem g_is_written_eq : g_is_written = (gSeq q_is_written_1 (gSeq q_is_written_2 gNop)) := rfl
noncomputable def q_written_below_1 : Stt → Fl := (gDrop (eCall PM.m_check_array (avN 1 (lPv (eVar 1) lNil))))
noncomputable def q_written_below_2 : Stt → Fl := (gRet (eCall PM.m_count_union (avN 1 (lPv (eCall PM.m_rows_below (avN 2 (lPv (eCall PM.m_written_rows (avN 2 (lPv (eVar 0) (lPv (eVar 1) lNil)))) (lPv (eVar 2) lNil)))) lNil))))
theorem g_written_below_eq : g_written_below = (gSeq q_written_below_1 (gSeq q_written_below_2 gNop)) := rfl
noncomputable def q_count_written_1 : Stt → Fl := (gDrop (eCall PM.m_check_array (avN 1 (lPv (eVar 1) lNil))))
noncomputable def q_count_written_2 : Stt → Fl := (gRet (eCall PM.m_count_union (avN 1 (lPv (eCall PM.m_written_rows (avN 2 (lPv (eVar 0) (lPv (eVar 1) lNil)))) lNil))))
theorem g_count_written_eq : g_count_written = (gSeq q_count_written_1 (gSeq q_count_written_2 gNop)) := rfl
noncomputable def q_check_array_1 : Stt → Fl := (gIf (tNt (tTru (eCall PM.m_is_array (avN 1 (lPv (eVar 0) lNil))))) (gSeq (gRaise "InvalidArray" (eVar 0)) gNop) gNop)
theorem g_check_array_eq : g_check_array = (gSeq q_check_array_1 gNop) := rfl
def Rw.pv (R : Rw) : PV := gt R.l R.h R.s R.r
abbrev rpv (rows : List Rw) : PV := .lst (rows.map Rw.pv)
theorem e_check_array {z : Str} (hz : Nm z) : m_check_array [.val (.str z)] [] = .ok .non [] := by
  have t1 : q_check_array_1 ⟨[some (.val (.str z))], []⟩ = .nx ⟨[some (.val (.str z))], []⟩ := by
    unfold q_check_array_1
    exact if_no (nt_t (tru_t (call1v rfl (e_is_array hz.arr))))
  unfold m_check_array
  rw [g_check_array_eq]
  simp only [mOf, start0, List.map_cons, List.map_nil, List.length_cons, List.length_nil, Nat.reduceAdd, Nat.reduceSub, List.replicate, List.cons_append, List.nil_append]
  rw [seq_nx t1]
  rfl
/-! ### the union -/
noncomputable def mt (R O : Rw) : PV := match m_meeting [.val R.pv, .val O.pv] [] with
  | .ok v _ => v
  | _ => .non
def mr : PV → Rw
  | .tup [.int a, .int b, .int c, .int d] => ⟨a, b, c, d⟩
  | _ => ⟨0, 0, 1, 0⟩
def nn : PV → Bool
  | .non => false
  | _ => true
theorem Rw.Ok.b {M : Int} {R : Rw} (hM : 0 < M) (bM : M.natAbs < 2 ^ 4000) (h : R.Ok M) : R.s.natAbs < 2 ^ 4000 := by
  have := Int.le_of_dvd hM h.dv
  have := h.s0
  omega
theorem Rw.Ok.d {M : Int} {R : Rw} (hM : 0 < M) (bM : M.natAbs < 2 ^ 4000) (h : R.Ok M) : okDiv R.s = true := okDiv_of (by have := h.s0; omega) (h.b hM bM) (by decide) (by decide)
theorem mt_ok {M : Int} {R O : Rw} (hM : 0 < M) (bM : M.natAbs < 2 ^ 4000) (h1 : R.Ok M) (h2 : O.Ok M) : m_meeting [.val R.pv, .val O.pv] [] = .ok (mt R O) [] ∧ MeetIs R.l R.h R.s R.r O.l O.h O.s O.r (mt R O) := by
  obtain ⟨m, e, k⟩ := e_meeting R.l R.h R.s R.r O.l O.h O.s O.r h1.s0 h2.s0 (h1.b hM bM) (h2.b hM bM) h1.r0 h1.r1 h2.r0 h2.r1
  have e : m_meeting [.val R.pv, .val O.pv] [] = .ok m [] := e
  have : mt R O = m := by unfold mt; rw [e]
  rw [this]
  exact ⟨e, k⟩
theorem mt_row {M : Int} {R O : Rw} (hM : 0 < M) (bM : M.natAbs < 2 ^ 4000) (h1 : R.Ok M) (h2 : O.Ok M) (hn : nn (mt R O) = true) : mt R O = (mr (mt R O)).pv ∧ (mr (mt R O)).Ok M ∧ ∀ z, (mr (mt R O)).In z ↔ R.In z ∧ O.In z := by
  rcases (mt_ok hM bM h1 h2).2 with ⟨e, _⟩ | ⟨t, c, e, t0, c0, c1, _, hz, _, _, _, hd, _⟩
  · rw [e] at hn
    cases hn
  · rw [e]
    refine ⟨rfl, ⟨t0, c0, c1, hd M h1.dv h2.dv⟩, fun z => ?_⟩
    show (max R.l O.l ≤ z ∧ z < min R.h O.h ∧ z % t = c) ↔ (R.l ≤ z ∧ z < R.h ∧ z % R.s = R.r) ∧ (O.l ≤ z ∧ z < O.h ∧ z % O.s = O.r)
    rw [← hz z]
    omega
theorem mt_none {M : Int} {R O : Rw} (hM : 0 < M) (bM : M.natAbs < 2 ^ 4000) (h1 : R.Ok M) (h2 : O.Ok M) (hn : nn (mt R O) = false) (z : Int) : ¬ (R.In z ∧ O.In z) := by
  rcases (mt_ok hM bM h1 h2).2 with ⟨_, k⟩ | ⟨t, c, e, _⟩
  · rintro ⟨⟨a1, a2, a3⟩, b1, b2, b3⟩
    exact k z (by omega) (by omega) ⟨a3, b3⟩
  · rw [e] at hn
    cases hn
noncomputable def cuB1 : Stt → Fl := (gAsg (frz (oComp [5] (iAny (eSl (eVar 0) pNo (pSo (eVar 2)))) (aName 5) tYesD (eCall PM.m_meeting (avN 2 (lPv (eVar 3) (lPv (eVar 5) lNil)))))) (aName 4))
noncomputable def cuB2 (selfm : List SV → List MO → FRes) : Stt → Fl := (gAug 1 pAddI (eBin pSub (eCall PM.m_lanes_of (avN 1 (lPv (eVar 3) lNil))) (eCall selfm (avN 1 (lPv (frz (oComp [6] (iAny (eVar 4)) (aName 6) (tOf (eBin pIsNot (eVar 6) (eC .non))) (eVar 6))) lNil)))))
noncomputable def cuB (selfm : List SV → List MO → FRes) : Stt → Fl := gSeq cuB1 (gSeq (cuB2 selfm) gNop)
noncomputable def cu1 : Stt → Fl := gAsg (eC (.int 0)) (aName 1)
noncomputable def cu2 (selfm : List SV → List MO → FRes) : Stt → Fl := gFor (iEnumQ (aCons (eVar 0) aNil)) (aTup 2 (asCons (aName 2) (asCons (aName 3) asNil))) (cuB selfm)
theorem g_count_union_eq (selfm : List SV → List MO → FRes) : g_count_union selfm = (gSeq cu1 (gSeq (cu2 selfm) (gSeq (gRet (eVar 1)) gNop))) := rfl
theorem e_union {M : Int} (hM : 0 < M) (bM : M.natAbs < 2 ^ 4000) : ∀ (n : Nat) (rows : List Rw), rows.length < n → rows.length ≤ 1000 → (∀ R ∈ rows, R.Ok M) → ∃ k : Nat, m_count_union_r n [.val (rpv rows)] [] = .ok (.int k) [] ∧ Cnt (InL rows) k
  | 0, rows, h, _, _ => absurd h (Nat.not_lt_zero _)
  | n + 1, rows, hlt, hl, ok => by
    obtain ⟨s2, e2, tot, y2, y3, y4, hc, rfl⟩ := forL_inv (a := aTup 2 (asCons (aName 2) (asCons (aName 3) asNil))) (b := cuB (m_count_union_r n)) (fun i s => ∃ (tot : Nat) (y2 y3 y4 : Option SV), Cnt (InL (rows.take i)) tot ∧ s = ⟨[some (.val (rpv rows)), some (.val (.int tot)), y2, y3, y4, none, none], []⟩) (enumP (rows.map Rw.pv)) 0 ⟨[some (.val (rpv rows)), some (.val (.int (0 : Nat))), none, none, none, none, none], []⟩ ⟨0, none, none, none, by rw [List.take_zero]; exact InL.nil, rfl⟩ (by
      rintro i p s hpi ⟨tot, y2, y3, y4, hc, rfl⟩
      rw [Nat.zero_add] at hc
      obtain ⟨q, hq, rfl⟩ := enumP_at hpi
      rw [List.getElem?_map] at hq
      cases hxi : rows[i]? with
      | none => rw [hxi] at hq; cases hq
      | some R =>
        rw [hxi] at hq
        obtain rfl : R.pv = q := Option.some.inj hq
        have li := (List.getElem?_eq_some_iff.mp hxi).1
        have okR : R.Ok M := ok R (List.mem_of_getElem? hxi)
        have okt : ∀ O ∈ rows.take i, O.Ok M := fun O hO => ok O (List.mem_of_mem_take hO)
        have lt : (rows.take i).length = i := by rw [List.length_take]; omega
        have cc := compL_M (vs := [5]) (a := aName 5) (fe := eCall PM.m_meeting (avN 2 (lPv (eVar 3) (lPv (eVar 5) lNil)))) (s := ⟨[some (.val (rpv rows)), some (.val (.int tot)), some (.val (.int (i : Nat))), some (.val (R.pv)), y4, none, none], []⟩) Rw.pv (mt R) (rows.take i) (by omega) (by
          intro O hO
          exact ⟨⟨[some (.val (rpv rows)), some (.val (.int tot)), some (.val (.int (i : Nat))), some (.val (R.pv)), y4, some (.val (O.pv)), none], []⟩, rfl, ⟨[some (.val (rpv rows)), some (.val (.int tot)), some (.val (.int (i : Nat))), some (.val (R.pv)), y4, some (.val (O.pv)), none], []⟩, call2v rfl rfl (mt_ok hM bM okR (okt O hO)).1, rfl⟩)
        have hi : iAny (eSl (eVar 0) pNo (pSo (eVar 2))) ⟨[some (.val (rpv rows)), some (.val (.int tot)), some (.val (.int (i : Nat))), some (.val (R.pv)), y4, none, none], []⟩ = .ok ((rows.take i).map Rw.pv) ⟨[some (.val (rpv rows)), some (.val (.int tot)), some (.val (.int (i : Nat))), some (.val (R.pv)), y4, none, none], []⟩ := by
          rw [List.map_take, ← cut_take]
          exact any_i (sl_lM (l := rows.map Rw.pv) rfl rfl (so_atM rfl))
        have t1 : cuB1 ⟨[some (.val (rpv rows)), some (.val (.int tot)), some (.val (.int (i : Nat))), some (.val (R.pv)), y4, none, none], []⟩ = .nx ⟨[some (.val (rpv rows)), some (.val (.int tot)), some (.val (.int (i : Nat))), some (.val (R.pv)), some (.val (.lst ((rows.take i).map (mt R)))), none, none], []⟩ := by
          unfold cuB1
          exact asg_at (s1 := ⟨[some (.val (rpv rows)), some (.val (.int tot)), some (.val (.int (i : Nat))), some (.val (R.pv)), y4, none, none], []⟩) (comp_at (l := (rows.take i).map Rw.pv) hi cc rfl) rfl
        have cc2 := compL_F (vs := [6]) (a := aName 6) (ft := tOf (eBin pIsNot (eVar 6) (eC .non))) (fe := eVar 6) (s := ⟨[some (.val (rpv rows)), some (.val (.int tot)), some (.val (.int (i : Nat))), some (.val (R.pv)), some (.val (.lst ((rows.take i).map (mt R)))), none, none], []⟩) (mt R) (mt R) (fun O => nn (mt R O)) (rows.take i) [] (by rw [List.length_nil]; omega) (by
          intro O hO
          exact ⟨⟨[some (.val (rpv rows)), some (.val (.int tot)), some (.val (.int (i : Nat))), some (.val (R.pv)), some (.val (.lst ((rows.take i).map (mt R)))), none, some (.val (mt R O))], []⟩, ⟨[some (.val (rpv rows)), some (.val (.int tot)), some (.val (.int (i : Nat))), some (.val (R.pv)), some (.val (.lst ((rows.take i).map (mt R)))), none, some (.val (mt R O))], []⟩, rfl, rfl, fun _ => rfl, fun _ => ⟨_, rfl, rfl⟩⟩)
        rw [List.nil_append] at cc2
        obtain ⟨T, hT⟩ : ∃ T, T = ((rows.take i).filter fun O => nn (mt R O)).map fun O => mr (mt R O) := ⟨_, rfl⟩
        have eT : ((rows.take i).filter fun O => nn (mt R O)).map (mt R) = T.map Rw.pv := by
          rw [hT, List.map_map]
          refine List.map_congr_left fun O hO => ?_
          obtain ⟨h1, h2⟩ := List.mem_filter.mp hO
          exact (mt_row hM bM okR (okt O h1) h2).1
        have okT : ∀ Z ∈ T, Z.Ok M := fun Z hZ => by
          rw [hT] at hZ
          obtain ⟨O, hO, rfl⟩ := List.mem_map.mp hZ
          obtain ⟨h1, h2⟩ := List.mem_filter.mp hO
          exact (mt_row hM bM okR (okt O h1) h2).2.1
        have lT : T.length ≤ i := by
          rw [hT, List.length_map]
          have := List.length_filter_le (fun O => nn (mt R O)) (rows.take i)
          omega
        have inT : ∀ z, InL T z ↔ InL (rows.take i) z ∧ R.In z := fun z => by
          constructor
          · rintro ⟨Z, hZ, k⟩
            rw [hT] at hZ
            obtain ⟨O, hO, rfl⟩ := List.mem_map.mp hZ
            obtain ⟨h1, h2⟩ := List.mem_filter.mp hO
            have := ((mt_row hM bM okR (okt O h1) h2).2.2 z).mp k
            exact ⟨⟨O, h1, this.2⟩, this.1⟩
          · rintro ⟨⟨O, hO, k⟩, kR⟩
            cases hn : nn (mt R O) with
            | false => exact absurd ⟨kR, k⟩ (mt_none hM bM okR (okt O hO) hn z)
            | true => exact ⟨mr (mt R O), by rw [hT]; exact List.mem_map.mpr ⟨O, List.mem_filter.mpr ⟨hO, hn⟩, rfl⟩, ((mt_row hM bM okR (okt O hO) hn).2.2 z).mpr ⟨kR, k⟩⟩
        obtain ⟨k', ek, hk⟩ := e_union hM bM n T (by omega) (by omega) okT
        obtain ⟨b, eb, hb⟩ := Rw.cnt (R := R) ⟨okR.s0, okR.r0, okR.r1⟩
        obtain ⟨kb, hadd⟩ := InL.snoc hc hb (hk.cg inT)
        have el := e_lanes_of R.l R.h R.s R.r okR.s0 (okR.d hM bM)
        rw [eb] at el
        have ec : frz (oComp [6] (iAny (eVar 4)) (aName 6) (tOf (eBin pIsNot (eVar 6) (eC .non))) (eVar 6)) ⟨[some (.val (rpv rows)), some (.val (.int tot)), some (.val (.int (i : Nat))), some (.val (R.pv)), some (.val (.lst ((rows.take i).map (mt R)))), none, none], []⟩ = .ok (rpv T) ⟨[some (.val (rpv rows)), some (.val (.int tot)), some (.val (.int (i : Nat))), some (.val (R.pv)), some (.val (.lst ((rows.take i).map (mt R)))), none, none], []⟩ := by
          have := comp_at (l := (rows.take i).map (mt R)) (any_i (st := ⟨[some (.val (rpv rows)), some (.val (.int tot)), some (.val (.int (i : Nat))), some (.val (R.pv)), some (.val (.lst ((rows.take i).map (mt R)))), none, none], []⟩) (fa := eVar 4) rfl) cc2 rfl
          rw [this, eT]
          rfl
        have t2 : cuB2 (m_count_union_r n) ⟨[some (.val (rpv rows)), some (.val (.int tot)), some (.val (.int (i : Nat))), some (.val (R.pv)), some (.val (.lst ((rows.take i).map (mt R)))), none, none], []⟩ = .nx ⟨[some (.val (rpv rows)), some (.val (.int (tot + (b - k') : Nat))), some (.val (.int (i : Nat))), some (.val (R.pv)), some (.val (.lst ((rows.take i).map (mt R)))), none, none], []⟩ := by
          unfold cuB2
          refine aug_at (p := .int tot) (q := .int ((b : Int) - k')) rfl (bin_at (p := .int b) (q := .int k') (call1v (p := R.pv) rfl el) (call1v ec ek) rfl) (by
            show some (PV.int ((tot : Int) + ((b : Int) - k'))) = some (PV.int ((tot + (b - k') : Nat) : Int))
            congr 2
            omega) rfl
        refine ⟨⟨[some (.val (rpv rows)), some (.val (.int tot)), some (.val (.int (i : Nat))), some (.val (R.pv)), y4, none, none], []⟩, rfl, ⟨[some (.val (rpv rows)), some (.val (.int (tot + (b - k') : Nat))), some (.val (.int (i : Nat))), some (.val (R.pv)), some (.val (.lst ((rows.take i).map (mt R)))), none, none], []⟩, .inl ?_, tot + (b - k'), _, _, _, ?_, rfl⟩
        · unfold cuB
          rw [seq_nx t1]
          exact one_nx t2
        · rw [Nat.zero_add, show rows.take (i + 1) = rows.take i ++ [R] by rw [List.take_succ, hxi]; rfl]
          exact hadd)
    rw [Nat.zero_add, enumP_len, List.length_map, List.take_length] at hc
    have t1 : cu1 ⟨[some (.val (rpv rows)), none, none, none, none, none, none], []⟩ = .nx ⟨[some (.val (rpv rows)), some (.val (.int (0 : Nat))), none, none, none, none, none], []⟩ := rfl
    have t2 : cu2 (m_count_union_r n) ⟨[some (.val (rpv rows)), some (.val (.int (0 : Nat))), none, none, none, none, none], []⟩ = .nx ⟨[some (.val (rpv rows)), some (.val (.int tot)), y2, y3, y4, none, none], []⟩ := by
      unfold cu2
      exact (for_atM rfl).trans e2
    have t3 : gRet (eVar 1) ⟨[some (.val (rpv rows)), some (.val (.int tot)), y2, y3, y4, none, none], []⟩ = .rt (.int tot) ⟨[some (.val (rpv rows)), some (.val (.int tot)), y2, y3, y4, none, none], []⟩ := rfl
    refine ⟨tot, ?_, hc⟩
    show mOf 7 (g_count_union (m_count_union_r n)) _ _ = _
    rw [g_count_union_eq]
    simp only [mOf, start0, List.map_cons, List.map_nil, List.length_cons, List.length_nil, Nat.reduceAdd, Nat.reduceSub, List.replicate, List.cons_append, List.nil_append]
    rw [seq_nx t1, seq_nx t2, seq_rt t3]
    rfl
/-! ### rows below a cell -/
def Rw.low (c : Int) (R : Rw) : Rw := ⟨R.l, min R.h c, R.s, R.r⟩
def Rw.any (R : Rw) : Bool := decide (R.l < R.h) && decide (0 < lanesOf R.l R.h R.s R.r)
theorem Rw.any_in {M : Int} {R : Rw} (ok : R.Ok M) {z : Int} (h : R.In z) : R.any = true := by
  obtain ⟨k, hk, _⟩ := (Rw.lane_iff ⟨ok.s0, ok.r0, ok.r1⟩).mp h
  have : R.l < R.h := by have := h.1; have := h.2.1; omega
  unfold Rw.any
  rw [decide_eq_true this, decide_eq_true (show 0 < lanesOf R.l R.h R.s R.r by omega)]
  rfl
theorem e_rows_below {M c : Int} {rows : List Rw} (hM : 0 < M) (bM : M.natAbs < 2 ^ 4000) (hl : rows.length ≤ 1000) (ok : ∀ R ∈ rows, R.Ok M) : ∃ T : List Rw, m_rows_below [.val (rpv rows), .val (.int c)] [] = .ok (rpv T) [] ∧ (∀ R ∈ T, R.Ok M) ∧ T.length ≤ rows.length ∧ ∀ z, InL T z ↔ InL rows z ∧ z < c := by
  have cc := compL_M (vs := [3, 4, 5, 6]) (a := l_rows_below_1c) (fe := l_rows_below_1e) (s := ⟨[some (.val (rpv rows)), some (.val (.int c)), none, none, none, none, none, none], []⟩) Rw.pv (fun R => (R.low c).pv) rows (by omega) (by
    intro R hR
    refine ⟨⟨[some (.val (rpv rows)), some (.val (.int c)), none, some (.val (.int R.l)), some (.val (.int R.h)), some (.val (.int R.s)), some (.val (.int R.r)), none], []⟩, rfl, ⟨[some (.val (rpv rows)), some (.val (.int c)), none, some (.val (.int R.l)), some (.val (.int R.h)), some (.val (.int R.s)), some (.val (.int R.r)), none], []⟩, ?_, rfl⟩
    unfold l_rows_below_1e
    refine tup_at (acons_at rfl (acons_at (cb2M (p := .int R.h) (q := .int c) (r := .int (min R.h c)) rfl rfl ?_) (acons_at rfl (acons_at rfl rfl)))) (by show (4 : Nat) ≤ 16777216; decide)
    rw [← min_ifs]
    rfl)
  rw [show rows.map (fun R => (R.low c).pv) = (rows.map (Rw.low c)).map Rw.pv by rw [List.map_map]; rfl] at cc
  have t1 : q_rows_below_1 ⟨[some (.val (rpv rows)), some (.val (.int c)), none, none, none, none, none, none], []⟩ = .nx ⟨[some (.val (rpv rows)), some (.val (.int c)), some (.val (rpv (rows.map (Rw.low c)))), none, none, none, none, none], []⟩ := by
    unfold q_rows_below_1
    exact asg_at (s1 := ⟨[some (.val (rpv rows)), some (.val (.int c)), none, none, none, none, none, none], []⟩) (comp_at (l := rows.map Rw.pv) (any_i rfl) cc rfl) rfl
  have okL : ∀ R ∈ rows.map (Rw.low c), R.Ok M := fun R hR => by
    obtain ⟨O, hO, rfl⟩ := List.mem_map.mp hR
    exact ⟨(ok O hO).s0, (ok O hO).r0, (ok O hO).r1, (ok O hO).dv⟩
  have cc2 := compL_F (vs := [7]) (a := l_rows_below_2c) (ft := l_rows_below_2d) (fe := l_rows_below_2e) (s := ⟨[some (.val (rpv rows)), some (.val (.int c)), some (.val (rpv (rows.map (Rw.low c)))), none, none, none, none, none], []⟩) Rw.pv Rw.pv Rw.any (rows.map (Rw.low c)) [] (by rw [List.length_nil, List.length_map]; omega) (by
    intro R hR
    have o := okL R hR
    refine ⟨⟨[some (.val (rpv rows)), some (.val (.int c)), some (.val (rpv (rows.map (Rw.low c)))), none, none, none, none, some (.val (R.pv))], []⟩, ⟨[some (.val (rpv rows)), some (.val (.int c)), some (.val (rpv (rows.map (Rw.low c)))), none, none, none, none, some (.val (R.pv))], []⟩, rfl, ?_, fun _ => rfl, fun _ => ⟨_, rfl, rfl⟩⟩
    unfold l_rows_below_2d Rw.any
    exact an_t (cmp_t (p := .int R.l) (q := .int R.h) (z := decide (R.l < R.h)) (bin_at (p := R.pv) rfl rfl (at0 _ _)) (bin_at (p := R.pv) rfl rfl (at1 _ _ _)) rfl) (cmp_t (p := .int (lanesOf R.l R.h R.s R.r)) (q := .int 0) (z := decide (0 < lanesOf R.l R.h R.s R.r)) (call1v (p := R.pv) rfl (e_lanes_of R.l R.h R.s R.r o.s0 (o.d hM bM))) rfl rfl))
  rw [List.nil_append] at cc2
  have t2 : q_rows_below_2 ⟨[some (.val (rpv rows)), some (.val (.int c)), some (.val (rpv (rows.map (Rw.low c)))), none, none, none, none, none], []⟩ = .rt (rpv ((rows.map (Rw.low c)).filter Rw.any)) ⟨[some (.val (rpv rows)), some (.val (.int c)), some (.val (rpv (rows.map (Rw.low c)))), none, none, none, none, none], []⟩ := by
    unfold q_rows_below_2
    exact ret_at (comp_at (l := (rows.map (Rw.low c)).map Rw.pv) (any_i rfl) cc2 rfl)
  refine ⟨(rows.map (Rw.low c)).filter Rw.any, ?_, fun R hR => okL R (List.mem_filter.mp hR).1, ?_, fun z => ?_⟩
  · unfold m_rows_below
    rw [g_rows_below_eq]
    simp only [mOf, start0, List.map_cons, List.map_nil, List.length_cons, List.length_nil, Nat.reduceAdd, Nat.reduceSub, List.replicate, List.cons_append, List.nil_append]
    rw [seq_nx t1, seq_rt t2]
    rfl
  · have := List.length_filter_le Rw.any (rows.map (Rw.low c))
    rw [List.length_map] at this
    exact this
  · constructor
    · rintro ⟨R, hR, k⟩
      obtain ⟨O, hO, rfl⟩ := List.mem_map.mp (List.mem_filter.mp hR).1
      obtain ⟨k1, k2, k3⟩ := k
      have k2 : z < min O.h c := k2
      exact ⟨⟨O, hO, k1, by omega, k3⟩, by omega⟩
    · rintro ⟨⟨O, hO, k1, k2, k3⟩, k⟩
      have kk : (O.low c).In z := ⟨k1, by show z < min O.h c; omega, k3⟩
      exact ⟨O.low c, List.mem_filter.mpr ⟨List.mem_map.mpr ⟨O, hO, rfl⟩, Rw.any_in (okL _ (List.mem_map.mpr ⟨O, hO, rfl⟩)) kk⟩, kk⟩
/-! ### cells -/
theorem e_cells_of {l h s r a b : Int} (P : AccB l h s r a b) (hn : 0 < lanesOf l h s r) : m_cells_of [.val (gt l h s r), .val (.int a), .val (.int b)] [] = .ok ((⟨l, h, s, r⟩ : Rw).cells a b).pv [] := by
  have s0 := P.s0
  have e1 := e_first_of l h s r s0.1
  have e2 := e_lanes_of l h s r s0.1 P.okd
  have fb := P.firstB
  have hl0 : ∃ k : Nat, (k : Int) = lanesOf l h s r - 1 := ⟨(lanesOf l h s r - 1).toNat, Int.toNat_of_nonneg (by omega)⟩
  obtain ⟨k, hk⟩ := hl0
  have lb := P.lane (k := k) (by omega)
  rw [hk] at lb
  have bh := P.bh
  unfold Rw.cells Rw.pv
  simp only
  obtain ⟨n, en⟩ : ∃ n, n = lanesOf l h s r := ⟨_, rfl⟩
  obtain ⟨f, ef⟩ : ∃ f, f = firstOf l s r := ⟨_, rfl⟩
  rw [← en] at e2 hn fb lb hk
  rw [← ef] at e1 fb lb
  have t1 : q_cells_of_1 ⟨[some (.val (gt l h s r)), some (.val (.int a)), some (.val (.int b)), none, none, none, none], []⟩ = .nx ⟨[some (.val (gt l h s r)), some (.val (.int a)), some (.val (.int b)), some (.val (.int f)), some (.val (.int n)), none, none], []⟩ := by
    unfold q_cells_of_1
    exact par_at (acons_at (call1v rfl e1) (acons_at (call1v rfl e2) rfl)) rfl
  have c2 := eq_t (st := ⟨[some (.val (gt l h s r)), some (.val (.int a)), some (.val (.int b)), some (.val (.int f)), some (.val (.int n)), none, none], []⟩) (i := a) (j := 0) (fa := eVar 1) (fb := eC (.int 0)) rfl rfl
  by_cases q : a = 0
  · rw [beq_iff_eq.mpr q] at c2
    rw [if_pos q]
    have t2 : q_cells_of_2 ⟨[some (.val (gt l h s r)), some (.val (.int a)), some (.val (.int b)), some (.val (.int f)), some (.val (.int n)), none, none], []⟩ = .rt (gt b (b + 1) 1 0) ⟨[some (.val (gt l h s r)), some (.val (.int a)), some (.val (.int b)), some (.val (.int f)), some (.val (.int n)), none, none], []⟩ := by
      unfold q_cells_of_2
      exact (if_yes c2).trans (seq_rt (ret_at (tup_at (acons_at rfl (acons_at (bin_at rfl rfl rfl) (acons_at rfl (acons_at rfl rfl)))) (by show (4 : Nat) ≤ 16777216; decide))))
    unfold m_cells_of
    rw [g_cells_of_eq]
    simp only [mOf, start0, List.map_cons, List.map_nil, List.length_cons, List.length_nil, Nat.reduceAdd, Nat.reduceSub, List.replicate, List.cons_append, List.nil_append]
    rw [seq_nx t1, seq_rt t2]
    rfl
  · rw [beq_eq_false_iff_ne.mpr q] at c2
    rw [if_neg q]
    simp only [← en, ← ef]
    have t2 : q_cells_of_2 ⟨[some (.val (gt l h s r)), some (.val (.int a)), some (.val (.int b)), some (.val (.int f)), some (.val (.int n)), none, none], []⟩ = .nx ⟨[some (.val (gt l h s r)), some (.val (.int a)), some (.val (.int b)), some (.val (.int f)), some (.val (.int n)), none, none], []⟩ := by
      unfold q_cells_of_2
      exact if_no c2
    have ba := P.ba
    have bs := P.bs
    have bab : ((a.natAbs : Int)).natAbs < 2 ^ 1000 := by rw [Int.natAbs_natCast]; exact ba
    have m1 : okMul (a.natAbs : Int) s = true := okMul_of bab bs (by decide) (by decide) (by decide)
    have bst := natAbs_mul_lt bab bs
    have bn1 : (n - 1).natAbs < 2 ^ 1000 := by have := fb.2; omega
    have m2 : okMul s (n - 1) = true := okMul_of bs bn1 (by decide) (by decide) (by decide)
    have bl : (f + s * (n - 1)).natAbs < 2 ^ 1001 := by
      have : (2 : Nat) ^ 1001 = 2 ^ 1000 + 2 ^ 1000 := by rw [Nat.pow_succ]; omega
      omega
    have m3 : okMul a (f + s * (n - 1)) = true := okMul_of ba bl (by decide) (by decide) (by decide)
    have m4 : okMul a f = true := okMul_of ba fb.1 (by decide) (by decide) (by decide)
    have m5 : okMul ((a.natAbs : Int) * s) (n - 1) = true := okMul_of bst bn1 (by decide) (by decide) (by decide)
    have sp : 0 < (a.natAbs : Int) * s := Int.mul_pos (by omega) s0.1
    obtain ⟨st, est⟩ : ∃ st, st = (a.natAbs : Int) * s := ⟨_, rfl⟩
    rw [← est] at m5 sp ⊢
    have t3 : q_cells_of_3 ⟨[some (.val (gt l h s r)), some (.val (.int a)), some (.val (.int b)), some (.val (.int f)), some (.val (.int n)), none, none], []⟩ = .nx ⟨[some (.val (gt l h s r)), some (.val (.int a)), some (.val (.int b)), some (.val (.int f)), some (.val (.int n)), some (.val (.int st)), none], []⟩ := by
      unfold q_cells_of_3
      refine asg_at (s1 := ⟨[some (.val (gt l h s r)), some (.val (.int a)), some (.val (.int b)), some (.val (.int f)), some (.val (.int n)), none, none], []⟩) (bin_at (p := .int (a.natAbs : Int)) (q := .int s) (callB1_at (p := .int a) rfl (by show some (PV.int (if a < 0 then -a else a)) = _; congr 2; split <;> omega)) (bin_at rfl rfl (at2 _ _ _ _)) ?_) rfl
      rw [est]
      exact if_pos m1
    obtain ⟨t, et⟩ : ∃ t, t = (if 0 < a then a * f + b else a * (f + s * (n - 1)) + b) := ⟨_, rfl⟩
    rw [← et]
    have c4 := cmp_t (op := pGt) (st := ⟨[some (.val (gt l h s r)), some (.val (.int a)), some (.val (.int b)), some (.val (.int f)), some (.val (.int n)), some (.val (.int st)), none], []⟩) (fa := eVar 1) (fb := eC (.int 0)) (z := decide (a > 0)) rfl rfl rfl
    have t4 : q_cells_of_4 ⟨[some (.val (gt l h s r)), some (.val (.int a)), some (.val (.int b)), some (.val (.int f)), some (.val (.int n)), some (.val (.int st)), none], []⟩ = .nx ⟨[some (.val (gt l h s r)), some (.val (.int a)), some (.val (.int b)), some (.val (.int f)), some (.val (.int n)), some (.val (.int st)), some (.val (.int t))], []⟩ := by
      unfold q_cells_of_4
      refine asg_at (s1 := ⟨[some (.val (gt l h s r)), some (.val (.int a)), some (.val (.int b)), some (.val (.int f)), some (.val (.int n)), some (.val (.int st)), none], []⟩) (p := .int t) ?_ rfl
      by_cases p : a > 0
      · rw [decide_eq_true p] at c4
        rw [et, if_pos p]
        exact eif_yes c4 (bin_at (p := .int (a * f)) (q := .int b) (bin_at rfl rfl (if_pos m4)) rfl rfl)
      · rw [decide_eq_false p] at c4
        rw [et, if_neg p]
        exact eif_no c4 (bin_at (p := .int (a * (f + s * (n - 1)))) (q := .int b) (bin_at (p := .int a) (q := .int (f + s * (n - 1))) rfl (bin_at (p := .int f) (q := .int (s * (n - 1))) rfl (bin_at (p := .int s) (q := .int (n - 1)) (bin_at rfl rfl (at2 _ _ _ _)) (bin_at rfl rfl rfl) (if_pos m2)) rfl) (if_pos m3)) rfl rfl)
    have t5 : q_cells_of_5 ⟨[some (.val (gt l h s r)), some (.val (.int a)), some (.val (.int b)), some (.val (.int f)), some (.val (.int n)), some (.val (.int st)), some (.val (.int t))], []⟩ = .rt (gt t (t + st * (n - 1) + 1) st (t % st)) ⟨[some (.val (gt l h s r)), some (.val (.int a)), some (.val (.int b)), some (.val (.int f)), some (.val (.int n)), some (.val (.int st)), some (.val (.int t))], []⟩ := by
      unfold q_cells_of_5
      refine ret_at (tup_at (acons_at rfl (acons_at (bin_at (p := .int (t + st * (n - 1))) (bin_at (p := .int t) (q := .int (st * (n - 1))) rfl (bin_at (p := .int st) (q := .int (n - 1)) rfl (bin_at rfl rfl rfl) (if_pos m5)) rfl) rfl rfl) (acons_at rfl (acons_at (bin_at (p := .int t) (q := .int st) rfl rfl ?_) rfl)))) (by show (4 : Nat) ≤ 16777216; decide))
      show (if st ≠ 0 then some (PV.int (t.fmod st)) else none) = _
      rw [if_pos (by omega), Int.fmod_eq_emod_of_nonneg _ (by omega)]
    unfold m_cells_of
    rw [g_cells_of_eq]
    simp only [mOf, start0, List.map_cons, List.map_nil, List.length_cons, List.length_nil, Nat.reduceAdd, Nat.reduceSub, List.replicate, List.cons_append, List.nil_append]
    rw [seq_nx t1, seq_nx t2, seq_nx t3, seq_nx t4, seq_rt t5]
    rfl
/-! ### the written rows -/
abbrev FT := Nat × Stm × Ac
def wq (nm : Str) (t : FT) : Bool := t.2.2.w && (t.2.2.z == nm && decide (0 < lanesOf t.2.1.l t.2.1.h t.2.1.s t.2.1.r))
def wrow (t : FT) : Rw := (⟨t.2.1.l, t.2.1.h, t.2.1.s, t.2.1.r⟩ : Rw).cells t.2.2.a t.2.2.b
def wrows (nm : Str) (T : List FT) : List Rw := (T.filter (wq nm)).map wrow
theorem word_eq (p : Ac) : pEqB (.str p.word) (.str "write") = some p.w := by
  obtain ⟨h1, h2⟩ := so_rw
  obtain ⟨w1, w2⟩ := word_ne
  obtain ⟨a, z, _, _⟩ := p
  cases a <;> simp [pEqB, toD, SeqAt.shaped, PyData.canLay0, PyData.depth, PyData.eqv, Ac.word, h1, h2, w1, w2]
section
variable {n : Int} {xs : List Stm} {bs : List Int} {nm : Str}
theorem e_written_rows (hl : xs.length ≤ 1000) (ox : ∀ x ∈ xs, x.ok n) (bx : ∀ x ∈ xs, x.Bd) (hz : Nm nm) : m_written_rows [.val (kern n (xs.map Stm.pv) (bs.map PV.int)), .val (.str nm)] [] = .ok (rpv (wrows nm (flat 0 xs))) [] := by
  have fl : (flat 0 xs).length ≤ 3000 := by
    have := accs_len 0 xs
    rw [accs_ltN] at this
    omega
  obtain ⟨s2, e2, y3, y4, y5, y6, y7, y8, rfl⟩ := for_preM (a := l_written_rows_1b) (b := l_written_rows_1c) (fun t : FT => Ac.pv (t.1 : Nat) t.2.2) (flat 0 xs) (fun pre s => ∃ y3 y4 y5 y6 y7 y8, s = ⟨[some (.val (kern n (xs.map Stm.pv) (bs.map PV.int))), some (.val (.str nm)), some (.own (.lst ((wrows nm pre).map Rw.pv))), y3, y4, y5, y6, y7, y8], []⟩) (by
    rintro pre t suf hT s ⟨y3, y4, y5, y6, y7, y8, rfl⟩
    have hm : t ∈ flat 0 xs := by rw [hT]; simp
    have lp : pre.length ≤ 3000 := by
      have := congrArg List.length hT
      rw [List.length_append] at this
      omega
    have fm := flat_mem hm
    have hxs : xs[t.1]? = some t.2.1 := by have := fm.2.1; rwa [Nat.sub_zero] at this
    have hx := List.mem_of_getElem? hxs
    have P := (bx _ hx).ac _ fm.2.2
    have hp := ac_nm (ox _ hx) _ fm.2.2
    have s1 : l_written_rows_1c_s1 ⟨[some (.val (kern n (xs.map Stm.pv) (bs.map PV.int))), some (.val (.str nm)), some (.own (.lst ((wrows nm pre).map Rw.pv))), some (.val (.int (t.1 : Nat))), some (.val (.str t.2.2.word)), some (.val (.str t.2.2.z)), some (.val (.int t.2.2.a)), some (.val (.int t.2.2.b)), y8], []⟩ = .nx ⟨[some (.val (kern n (xs.map Stm.pv) (bs.map PV.int))), some (.val (.str nm)), some (.own (.lst ((wrows nm pre).map Rw.pv))), some (.val (.int (t.1 : Nat))), some (.val (.str t.2.2.word)), some (.val (.str t.2.2.z)), some (.val (.int t.2.2.a)), some (.val (.int t.2.2.b)), some (.val (gt t.2.1.l t.2.1.h t.2.1.s t.2.1.r))], []⟩ := by
      unfold l_written_rows_1c_s1
      refine asg_at (s1 := ⟨[some (.val (kern n (xs.map Stm.pv) (bs.map PV.int))), some (.val (.str nm)), some (.own (.lst ((wrows nm pre).map Rw.pv))), some (.val (.int (t.1 : Nat))), some (.val (.str t.2.2.word)), some (.val (.str t.2.2.z)), some (.val (.int t.2.2.a)), some (.val (.int t.2.2.b)), y8], []⟩) (bin_at (p := t.2.1.pv) (q := .int 1) (bin_at (p := .tup (xs.map Stm.pv)) (q := .int (t.1 : Nat)) rfl rfl (atI_at (by rw [List.getElem?_map, hxs]; rfl))) rfl ?_) rfl
      obtain ⟨_, ⟨l, h, s, r, z, a, b, k⟩, _⟩ := t
      cases k <;> exact at1 _ _ _
    have c3 : tOf (eBin pGt (eCall PM.m_lanes_of (avN 1 (lPv (eVar 8) lNil))) (eC (.int 0))) ⟨[some (.val (kern n (xs.map Stm.pv) (bs.map PV.int))), some (.val (.str nm)), some (.own (.lst ((wrows nm pre).map Rw.pv))), some (.val (.int (t.1 : Nat))), some (.val (.str t.2.2.word)), some (.val (.str t.2.2.z)), some (.val (.int t.2.2.a)), some (.val (.int t.2.2.b)), some (.val (gt t.2.1.l t.2.1.h t.2.1.s t.2.1.r))], []⟩ = .ok (decide (0 < lanesOf t.2.1.l t.2.1.h t.2.1.s t.2.1.r)) ⟨[some (.val (kern n (xs.map Stm.pv) (bs.map PV.int))), some (.val (.str nm)), some (.own (.lst ((wrows nm pre).map Rw.pv))), some (.val (.int (t.1 : Nat))), some (.val (.str t.2.2.word)), some (.val (.str t.2.2.z)), some (.val (.int t.2.2.a)), some (.val (.int t.2.2.b)), some (.val (gt t.2.1.l t.2.1.h t.2.1.s t.2.1.r))], []⟩ := cmp_t (p := .int (lanesOf t.2.1.l t.2.1.h t.2.1.s t.2.1.r)) (q := .int 0) (call1v rfl (e_lanes_of _ _ _ _ P.s0.1 P.okd)) rfl rfl
    have c2 : tOf (eBin pEq (eVar 5) (eVar 1)) ⟨[some (.val (kern n (xs.map Stm.pv) (bs.map PV.int))), some (.val (.str nm)), some (.own (.lst ((wrows nm pre).map Rw.pv))), some (.val (.int (t.1 : Nat))), some (.val (.str t.2.2.word)), some (.val (.str t.2.2.z)), some (.val (.int t.2.2.a)), some (.val (.int t.2.2.b)), some (.val (gt t.2.1.l t.2.1.h t.2.1.s t.2.1.r))], []⟩ = .ok (t.2.2.z == nm) ⟨[some (.val (kern n (xs.map Stm.pv) (bs.map PV.int))), some (.val (.str nm)), some (.own (.lst ((wrows nm pre).map Rw.pv))), some (.val (.int (t.1 : Nat))), some (.val (.str t.2.2.word)), some (.val (.str t.2.2.z)), some (.val (.int t.2.2.a)), some (.val (.int t.2.2.b)), some (.val (gt t.2.1.l t.2.1.h t.2.1.s t.2.1.r))], []⟩ := cmp_t (p := .str t.2.2.z) (q := .str nm) rfl rfl (by unfold pEq; rw [eqB_str hp.so hz.so]; rfl)
    have c1 : tOf (eBin pEq (eVar 4) (eC (.str "write"))) ⟨[some (.val (kern n (xs.map Stm.pv) (bs.map PV.int))), some (.val (.str nm)), some (.own (.lst ((wrows nm pre).map Rw.pv))), some (.val (.int (t.1 : Nat))), some (.val (.str t.2.2.word)), some (.val (.str t.2.2.z)), some (.val (.int t.2.2.a)), some (.val (.int t.2.2.b)), some (.val (gt t.2.1.l t.2.1.h t.2.1.s t.2.1.r))], []⟩ = .ok t.2.2.w ⟨[some (.val (kern n (xs.map Stm.pv) (bs.map PV.int))), some (.val (.str nm)), some (.own (.lst ((wrows nm pre).map Rw.pv))), some (.val (.int (t.1 : Nat))), some (.val (.str t.2.2.word)), some (.val (.str t.2.2.z)), some (.val (.int t.2.2.a)), some (.val (.int t.2.2.b)), some (.val (gt t.2.1.l t.2.1.h t.2.1.s t.2.1.r))], []⟩ := eq_tt rfl (word_eq _)
    have c : tAn (tOf (eBin pEq (eVar 4) (eC (.str "write")))) (tAn (tOf (eBin pEq (eVar 5) (eVar 1))) (tOf (eBin pGt (eCall PM.m_lanes_of (avN 1 (lPv (eVar 8) lNil))) (eC (.int 0))))) ⟨[some (.val (kern n (xs.map Stm.pv) (bs.map PV.int))), some (.val (.str nm)), some (.own (.lst ((wrows nm pre).map Rw.pv))), some (.val (.int (t.1 : Nat))), some (.val (.str t.2.2.word)), some (.val (.str t.2.2.z)), some (.val (.int t.2.2.a)), some (.val (.int t.2.2.b)), some (.val (gt t.2.1.l t.2.1.h t.2.1.s t.2.1.r))], []⟩ = .ok (wq nm t) ⟨[some (.val (kern n (xs.map Stm.pv) (bs.map PV.int))), some (.val (.str nm)), some (.own (.lst ((wrows nm pre).map Rw.pv))), some (.val (.int (t.1 : Nat))), some (.val (.str t.2.2.word)), some (.val (.str t.2.2.z)), some (.val (.int t.2.2.a)), some (.val (.int t.2.2.b)), some (.val (gt t.2.1.l t.2.1.h t.2.1.s t.2.1.r))], []⟩ := an_t c1 (an_t c2 c3)
    refine ⟨⟨[some (.val (kern n (xs.map Stm.pv) (bs.map PV.int))), some (.val (.str nm)), some (.own (.lst ((wrows nm pre).map Rw.pv))), some (.val (.int (t.1 : Nat))), some (.val (.str t.2.2.word)), some (.val (.str t.2.2.z)), some (.val (.int t.2.2.a)), some (.val (.int t.2.2.b)), y8], []⟩, rfl, ?_⟩
    have fin : ∃ s3, l_written_rows_1c_s2 ⟨[some (.val (kern n (xs.map Stm.pv) (bs.map PV.int))), some (.val (.str nm)), some (.own (.lst ((wrows nm pre).map Rw.pv))), some (.val (.int (t.1 : Nat))), some (.val (.str t.2.2.word)), some (.val (.str t.2.2.z)), some (.val (.int t.2.2.a)), some (.val (.int t.2.2.b)), some (.val (gt t.2.1.l t.2.1.h t.2.1.s t.2.1.r))], []⟩ = .nx s3 ∧ s3 = ⟨[some (.val (kern n (xs.map Stm.pv) (bs.map PV.int))), some (.val (.str nm)), some (.own (.lst ((wrows nm (pre ++ [t])).map Rw.pv))), some (.val (.int (t.1 : Nat))), some (.val (.str t.2.2.word)), some (.val (.str t.2.2.z)), some (.val (.int t.2.2.a)), some (.val (.int t.2.2.b)), some (.val (gt t.2.1.l t.2.1.h t.2.1.s t.2.1.r))], []⟩ := by
      unfold l_written_rows_1c_s2
      cases hq : wq nm t with
      | false =>
        rw [hq] at c
        refine ⟨_, if_no c, ?_⟩
        have : wrows nm (pre ++ [t]) = wrows nm pre := by
          unfold wrows
          rw [List.filter_append, show [t].filter (wq nm) = [] by rw [List.filter_cons, hq]; rfl, List.append_nil]
        rw [this]
      | true =>
        rw [hq] at c
        have hpos : 0 < lanesOf t.2.1.l t.2.1.h t.2.1.s t.2.1.r := by
          unfold wq at hq
          rw [Bool.and_eq_true, Bool.and_eq_true, decide_eq_true_iff] at hq
          exact hq.2.2
        have : (wrows nm (pre ++ [t])).map Rw.pv = (wrows nm pre).map Rw.pv ++ [(wrow t).pv] := by
          unfold wrows
          rw [List.filter_append, show [t].filter (wq nm) = [t] by rw [List.filter_cons, hq]; rfl, List.map_append, List.map_append]
          rfl
        rw [this]
        refine ⟨_, (if_yes c).trans (one_nx (app_atM (l := (wrows nm pre).map Rw.pv) rfl (call3v rfl rfl rfl (e_cells_of P hpos)) ?_ rfl)), rfl⟩
        unfold wrows
        rw [List.length_map, List.length_map]
        have := List.length_filter_le (wq nm) pre
        omega
    obtain ⟨s3, e3, rfl⟩ := fin
    refine ⟨⟨[some (.val (kern n (xs.map Stm.pv) (bs.map PV.int))), some (.val (.str nm)), some (.own (.lst ((wrows nm (pre ++ [t])).map Rw.pv))), some (.val (.int (t.1 : Nat))), some (.val (.str t.2.2.word)), some (.val (.str t.2.2.z)), some (.val (.int t.2.2.a)), some (.val (.int t.2.2.b)), some (.val (gt t.2.1.l t.2.1.h t.2.1.s t.2.1.r))], []⟩, ?_, some (.val (.int (t.1 : Nat))), some (.val (.str t.2.2.word)), some (.val (.str t.2.2.z)), some (.val (.int t.2.2.a)), some (.val (.int t.2.2.b)), some (.val (gt t.2.1.l t.2.1.h t.2.1.s t.2.1.r)), rfl⟩
    unfold l_written_rows_1c
    rw [seq_nx s1]
    exact one_nx e3) (flat 0 xs) [] ⟨[some (.val (kern n (xs.map Stm.pv) (bs.map PV.int))), some (.val (.str nm)), some (.own (.lst [])), none, none, none, none, none, none], []⟩ rfl ⟨none, none, none, none, none, none, rfl⟩
  have t1 : q_written_rows_1 ⟨[some (.val (kern n (xs.map Stm.pv) (bs.map PV.int))), some (.val (.str nm)), none, none, none, none, none, none, none], []⟩ = .nx ⟨[some (.val (kern n (xs.map Stm.pv) (bs.map PV.int))), some (.val (.str nm)), some (.own (.lst [])), none, none, none, none, none, none], []⟩ := rfl
  have hi : iAny (eCall PM.m_access_list (avN 1 (lPv (eVar 0) lNil))) ⟨[some (.val (kern n (xs.map Stm.pv) (bs.map PV.int))), some (.val (.str nm)), some (.own (.lst [])), none, none, none, none, none, none], []⟩ = .ok ((flat 0 xs).map fun t : FT => Ac.pv (t.1 : Nat) t.2.2) ⟨[some (.val (kern n (xs.map Stm.pv) (bs.map PV.int))), some (.val (.str nm)), some (.own (.lst [])), none, none, none, none, none, none], []⟩ := by
    have e := e_access_list (n := n) (bs := bs) hl
    have ha : accs 0 xs = (flat 0 xs).map fun t : FT => Ac.pv (t.1 : Nat) t.2.2 := accs_flat 0 xs
    rw [ha] at e
    exact any_i (call1v rfl e)
  have t2 : q_written_rows_2 ⟨[some (.val (kern n (xs.map Stm.pv) (bs.map PV.int))), some (.val (.str nm)), some (.own (.lst [])), none, none, none, none, none, none], []⟩ = .nx ⟨[some (.val (kern n (xs.map Stm.pv) (bs.map PV.int))), some (.val (.str nm)), some (.own (.lst ((wrows nm (flat 0 xs)).map Rw.pv))), y3, y4, y5, y6, y7, y8], []⟩ := by
    unfold q_written_rows_2
    exact (for_atM hi).trans e2
  have t3 : q_written_rows_3 ⟨[some (.val (kern n (xs.map Stm.pv) (bs.map PV.int))), some (.val (.str nm)), some (.own (.lst ((wrows nm (flat 0 xs)).map Rw.pv))), y3, y4, y5, y6, y7, y8], []⟩ = .rt (rpv (wrows nm (flat 0 xs))) ⟨[some (.val (kern n (xs.map Stm.pv) (bs.map PV.int))), some (.val (.str nm)), none, y3, y4, y5, y6, y7, y8], []⟩ := rfl
  unfold m_written_rows
  rw [g_written_rows_eq]
  simp only [mOf, start0, List.map_cons, List.map_nil, List.length_cons, List.length_nil, Nat.reduceAdd, Nat.reduceSub, List.replicate, List.cons_append, List.nil_append]
  rw [seq_nx t1, seq_nx t2, seq_rt t3]
  rfl
/-- the cells that are written -/
def Wr (xs : List Stm) (nm : Str) (z : Int) : Prop := ∃ x ∈ xs, x.z = nm ∧ ∃ i, x.lane i ∧ z = x.a * i + x.b
theorem ac_wr {x : Stm} {p : Ac} (h : p ∈ x.ac) (hw : p.w = true) : p = ⟨true, x.z, x.a, x.b⟩ := by
  obtain ⟨l, h', s, r, z, a, b, k⟩ := x
  cases k with
  | put c d =>
    simp only [Stm.ac, List.mem_cons, List.not_mem_nil, or_false] at h
    exact h
  | move z2 c d e =>
    simp only [Stm.ac, List.mem_cons, List.not_mem_nil, or_false] at h
    rcases h with rfl | rfl
    · cases hw
    · rfl
  | sum z2 c d z3 e f =>
    simp only [Stm.ac, List.mem_cons, List.not_mem_nil, or_false] at h
    rcases h with rfl | rfl | rfl
    · cases hw
    · cases hw
    · rfl
theorem ac_last (x : Stm) : (⟨true, x.z, x.a, x.b⟩ : Ac) ∈ x.ac := by
  obtain ⟨l, h', s, r, z, a, b, k⟩ := x
  cases k <;> simp [Stm.ac]
theorem flat_put : ∀ (k : Nat) (xs : List Stm) (x : Stm) (p : Ac), x ∈ xs → p ∈ x.ac → ∃ i, (i, x, p) ∈ flat k xs
  | k, [], x, p, h, _ => by cases h
  | k, y :: ys, x, p, h, hp => by
    rcases List.mem_cons.mp h with rfl | h
    · exact ⟨k, List.mem_append.mpr (.inl (List.mem_map.mpr ⟨p, hp, rfl⟩))⟩
    · obtain ⟨i, hi⟩ := flat_put (k + 1) ys x p h hp
      exact ⟨i, List.mem_append.mpr (.inr hi)⟩
theorem flat_wlen : ∀ (k : Nat) (xs : List Stm), ((flat k xs).filter (wq nm)).length ≤ xs.length
  | k, [] => by simp [flat]
  | k, x :: ys => by
    have ih := flat_wlen (k + 1) ys
    show ((x.ac.map (fun p => (k, x, p)) ++ flat (k + 1) ys).filter (wq nm)).length ≤ _
    rw [List.filter_append, List.length_append, List.length_cons]
    have : ((x.ac.map (fun p => (k, x, p))).filter (wq nm)).length ≤ 1 := by
      obtain ⟨l, h', s, r, z, a, b, kk⟩ := x
      cases kk with
      | put c d => exact Nat.le_trans (List.length_filter_le _ _) (Nat.le_refl 1)
      | move z2 c d e =>
        show ([((k, _, (⟨false, z2, c, d⟩ : Ac)) : FT), (k, _, (⟨true, z, a, b⟩ : Ac))].filter (wq nm)).length ≤ 1
        rw [List.filter_cons, if_neg (by simp [wq])]
        exact Nat.le_trans (List.length_filter_le _ _) (Nat.le_refl 1)
      | sum z2 c d z3 e f =>
        show ([((k, _, (⟨false, z2, c, d⟩ : Ac)) : FT), (k, _, (⟨false, z3, e, f⟩ : Ac)), (k, _, (⟨true, z, a, b⟩ : Ac))].filter (wq nm)).length ≤ 1
        rw [List.filter_cons, if_neg (by simp [wq]), List.filter_cons, if_neg (by simp [wq])]
        exact Nat.le_trans (List.length_filter_le _ _) (Nat.le_refl 1)
    omega
/-- what is asked of a kernel -/
structure WH (n M : Int) (xs : List Stm) : Prop where
  hl : xs.length ≤ 12
  ox : ∀ x ∈ xs, x.ok n
  bx : ∀ x ∈ xs, x.Bd
  M0 : 0 < M
  bM : M.natAbs < 2 ^ 4000
  dv : ∀ x ∈ xs, x.a ≠ 0 → (x.a.natAbs : Int) * x.s ∣ M
variable {M : Int}
theorem wr_len : (wrows nm (flat 0 xs)).length ≤ xs.length := by
  unfold wrows
  rw [List.length_map]
  exact flat_wlen 0 xs
theorem wr_mem (W : WH n M xs) {t : FT} (ht : t ∈ flat 0 xs) (hq : wq nm t = true) : t.2.1 ∈ xs ∧ t.2.2 = ⟨true, t.2.1.z, t.2.1.a, t.2.1.b⟩ ∧ t.2.1.z = nm ∧ 0 < lanesOf t.2.1.l t.2.1.h t.2.1.s t.2.1.r ∧ (0 < t.2.1.s ∧ 0 ≤ t.2.1.r ∧ t.2.1.r < t.2.1.s) := by
  have fm := flat_mem ht
  have hx := List.mem_of_getElem? fm.2.1
  unfold wq at hq
  rw [Bool.and_eq_true, Bool.and_eq_true, decide_eq_true_iff, beq_iff_eq] at hq
  have e := ac_wr fm.2.2 hq.1
  refine ⟨hx, e, ?_, hq.2.2, ((W.bx _ hx).ac _ fm.2.2).s0⟩
  rw [← hq.2.1, e]
theorem wr_ok (W : WH n M xs) : ∀ R ∈ wrows nm (flat 0 xs), R.Ok M := fun R hR => by
  obtain ⟨t, ht, rfl⟩ := List.mem_map.mp hR
  obtain ⟨h1, h2⟩ := List.mem_filter.mp ht
  obtain ⟨k1, k2, k3, k4, k5⟩ := wr_mem W h1 h2
  unfold wrow
  rw [k2]
  exact Rw.cells_ok k5.1 (W.dv _ k1)
theorem wr_in (W : WH n M xs) (z : Int) : InL (wrows nm (flat 0 xs)) z ↔ Wr xs nm z := by
  constructor
  · rintro ⟨R, hR, k⟩
    obtain ⟨t, ht, rfl⟩ := List.mem_map.mp hR
    obtain ⟨h1, h2⟩ := List.mem_filter.mp ht
    obtain ⟨k1, k2, k3, k4, k5⟩ := wr_mem W h1 h2
    unfold wrow at k
    rw [k2] at k
    obtain ⟨i, hi, e⟩ := (Rw.cells_in k5 k4).mp k
    exact ⟨t.2.1, k1, k3, i, by unfold Stm.lane isLane; rw [decide_eq_true_iff]; exact hi, e⟩
  · rintro ⟨x, hx, hz, i, hi, e⟩
    have g := ((W.bx _ hx).ac _ (ac_last x)).s0
    have hI : (⟨x.l, x.h, x.s, x.r⟩ : Rw).In i := by unfold Stm.lane isLane at hi; rw [decide_eq_true_iff] at hi; exact hi
    have hpos : 0 < lanesOf x.l x.h x.s x.r := by
      obtain ⟨k, hk, _⟩ := (Rw.lane_iff (R := ⟨x.l, x.h, x.s, x.r⟩) g).mp hI
      exact Int.lt_of_le_of_lt hk.1 hk.2
    obtain ⟨j, hj⟩ := flat_put 0 xs x _ hx (ac_last x)
    refine ⟨_, List.mem_map.mpr ⟨_, List.mem_filter.mpr ⟨hj, ?_⟩, rfl⟩, ?_⟩
    · unfold wq
      simp only [Bool.true_and, Bool.and_eq_true, beq_iff_eq, decide_eq_true_iff]
      exact ⟨hz, hpos⟩
    · exact (Rw.cells_in (R := ⟨x.l, x.h, x.s, x.r⟩) g hpos).mpr ⟨i, hI, e⟩
theorem e_count_written (W : WH n M xs) (hz : Nm nm) : ∃ k : Nat, m_count_written [.val (kern n (xs.map Stm.pv) (bs.map PV.int)), .val (.str nm)] [] = .ok (.int k) [] ∧ Cnt (Wr xs nm) k := by
  have hl := W.hl
  have wl := wr_len (xs := xs) (nm := nm)
  obtain ⟨k, ek, hk⟩ := e_union W.M0 W.bM 14 (wrows nm (flat 0 xs)) (by omega) (by omega) (wr_ok W)
  have t1 : q_count_written_1 ⟨[some (.val (kern n (xs.map Stm.pv) (bs.map PV.int))), some (.val (.str nm))], []⟩ = .nx ⟨[some (.val (kern n (xs.map Stm.pv) (bs.map PV.int))), some (.val (.str nm))], []⟩ := drop_at (call1v rfl (e_check_array hz))
  have t2 : q_count_written_2 ⟨[some (.val (kern n (xs.map Stm.pv) (bs.map PV.int))), some (.val (.str nm))], []⟩ = .rt (.int k) ⟨[some (.val (kern n (xs.map Stm.pv) (bs.map PV.int))), some (.val (.str nm))], []⟩ := by
    unfold q_count_written_2
    exact ret_at (call1v (call2v rfl rfl (e_written_rows (by omega) W.ox W.bx hz)) ek)
  refine ⟨k, ?_, hk.cg (wr_in W)⟩
  unfold m_count_written
  rw [g_count_written_eq]
  simp only [mOf, start0, List.map_cons, List.map_nil, List.length_cons, List.length_nil, Nat.reduceAdd, Nat.reduceSub, List.replicate, List.cons_append, List.nil_append]
  rw [seq_nx t1, seq_rt t2]
  rfl
theorem e_below (W : WH n M xs) (c : Int) : ∃ (T : List Rw) (k : Nat), m_rows_below [.val (rpv (wrows nm (flat 0 xs))), .val (.int c)] [] = .ok (rpv T) [] ∧ m_count_union [.val (rpv T)] [] = .ok (.int k) [] ∧ Cnt (fun z => Wr xs nm z ∧ z < c) k := by
  have hl := W.hl
  have wl := wr_len (xs := xs) (nm := nm)
  obtain ⟨T, eT, oT, lT, iT⟩ := e_rows_below (c := c) W.M0 W.bM (by omega) (wr_ok (nm := nm) W)
  obtain ⟨k, ek, hk⟩ := e_union W.M0 W.bM 14 T (by omega) (by omega) oT
  exact ⟨T, k, eT, ek, hk.cg fun z => (iT z).trans (and_congr (wr_in W z) Iff.rfl)⟩
theorem e_written_below (W : WH n M xs) (hz : Nm nm) (c : Int) : ∃ k : Nat, m_written_below [.val (kern n (xs.map Stm.pv) (bs.map PV.int)), .val (.str nm), .val (.int c)] [] = .ok (.int k) [] ∧ Cnt (fun z => Wr xs nm z ∧ z < c) k := by
  have hl := W.hl
  obtain ⟨T, k, e1, e2, hk⟩ := e_below (nm := nm) W c
  have t1 : q_written_below_1 ⟨[some (.val (kern n (xs.map Stm.pv) (bs.map PV.int))), some (.val (.str nm)), some (.val (.int c))], []⟩ = .nx ⟨[some (.val (kern n (xs.map Stm.pv) (bs.map PV.int))), some (.val (.str nm)), some (.val (.int c))], []⟩ := drop_at (call1v rfl (e_check_array hz))
  have t2 : q_written_below_2 ⟨[some (.val (kern n (xs.map Stm.pv) (bs.map PV.int))), some (.val (.str nm)), some (.val (.int c))], []⟩ = .rt (.int k) ⟨[some (.val (kern n (xs.map Stm.pv) (bs.map PV.int))), some (.val (.str nm)), some (.val (.int c))], []⟩ := by
    unfold q_written_below_2
    exact ret_at (call1v (call2v (call2v rfl rfl (e_written_rows (by omega) W.ox W.bx hz)) rfl e1) e2)
  refine ⟨k, ?_, hk⟩
  unfold m_written_below
  rw [g_written_below_eq]
  simp only [mOf, start0, List.map_cons, List.map_nil, List.length_cons, List.length_nil, Nat.reduceAdd, Nat.reduceSub, List.replicate, List.cons_append, List.nil_append]
  rw [seq_nx t1, seq_rt t2]
  rfl
theorem any_bls : ∀ l : List Bool, allBl (l.map PV.bl) = some l
  | [] => rfl
  | b :: l => by
    rw [List.map_cons]
    unfold allBl
    rw [any_bls l]
    rfl
theorem e_is_written (W : WH n M xs) (hz : Nm nm) (c : Int) : ∃ z : Bool, m_is_written [.val (kern n (xs.map Stm.pv) (bs.map PV.int)), .val (.str nm), .val (.int c)] [] = .ok (.bl z) [] ∧ (z = true ↔ Wr xs nm c) := by
  have hl := W.hl
  have wl := wr_len (xs := xs) (nm := nm)
  have ok := wr_ok (nm := nm) W
  have iW := wr_in (nm := nm) W c
  have ew := e_written_rows (bs := bs) (nm := nm) (show xs.length ≤ 1000 by omega) W.ox W.bx hz
  generalize wrows nm (flat 0 xs) = rows at wl ok iW ew
  have t1 : q_is_written_1 ⟨[some (.val (kern n (xs.map Stm.pv) (bs.map PV.int))), some (.val (.str nm)), some (.val (.int c)), none], []⟩ = .nx ⟨[some (.val (kern n (xs.map Stm.pv) (bs.map PV.int))), some (.val (.str nm)), some (.val (.int c)), none], []⟩ := drop_at (call1v rfl (e_check_array hz))
  have cc := compL_M (vs := [3]) (a := l_is_written_1c) (fe := l_is_written_1e) (s := ⟨[some (.val (kern n (xs.map Stm.pv) (bs.map PV.int))), some (.val (.str nm)), some (.val (.int c)), none], []⟩) Rw.pv (fun R => .bl (isLane R.l R.h R.s R.r c)) rows (by omega) (by
    intro R hR
    exact ⟨⟨[some (.val (kern n (xs.map Stm.pv) (bs.map PV.int))), some (.val (.str nm)), some (.val (.int c)), some (.val (R.pv))], []⟩, rfl, ⟨[some (.val (kern n (xs.map Stm.pv) (bs.map PV.int))), some (.val (.str nm)), some (.val (.int c)), some (.val (R.pv))], []⟩, call2v rfl rfl (e_has R.l R.h R.s R.r c (ok R hR).s0), rfl⟩)
  have cl := comp_at (l := rows.map Rw.pv) (any_i (st := ⟨[some (.val (kern n (xs.map Stm.pv) (bs.map PV.int))), some (.val (.str nm)), some (.val (.int c)), none], []⟩) (call2v rfl rfl ew)) cc rfl
  have t2 : q_is_written_2 ⟨[some (.val (kern n (xs.map Stm.pv) (bs.map PV.int))), some (.val (.str nm)), some (.val (.int c)), none], []⟩ = .rt (.bl (rows.any fun R => isLane R.l R.h R.s R.r c)) ⟨[some (.val (kern n (xs.map Stm.pv) (bs.map PV.int))), some (.val (.str nm)), some (.val (.int c)), none], []⟩ := by
    unfold q_is_written_2
    refine ret_at (callB1_at cl ?_)
    have := any_bls (rows.map fun R => isLane R.l R.h R.s R.r c)
    rw [List.map_map] at this
    show Option.map (fun ns : List Bool => PV.bl (ns.any id)) (allBl (rows.map (PV.bl ∘ fun R => isLane R.l R.h R.s R.r c))) = _
    rw [this]
    simp [List.any_map, Function.comp_def]
  refine ⟨rows.any fun R => isLane R.l R.h R.s R.r c, ?_, ?_⟩
  · unfold m_is_written
    rw [g_is_written_eq]
    simp only [mOf, start0, List.map_cons, List.map_nil, List.length_cons, List.length_nil, Nat.reduceAdd, Nat.reduceSub, List.replicate, List.cons_append, List.nil_append]
    rw [seq_nx t1, seq_rt t2]
    rfl
  · rw [List.any_eq_true, ← iW]
    constructor
    · rintro ⟨R, hR, h⟩
      unfold isLane at h
      rw [decide_eq_true_iff] at h
      exact ⟨R, hR, h⟩
    · rintro ⟨R, hR, h⟩
      exact ⟨R, hR, by unfold isLane; rw [decide_eq_true_iff]; exact h⟩
/-! ### the one with a number -/
theorem int_lst (l : List Int) : allInt (l.map PV.int) = some l := by
  induction l with
  | nil => rfl
  | cons x l ih => rw [List.map_cons]; unfold allInt; rw [ih]; rfl
/-- the search -/
theorem nth_loop {rows : List Rw} {k : Nat} {P : Int → Prop} (hb : ∀ c : Int, ∃ (T : List Rw) (j : Nat), m_rows_below [.val (rpv rows), .val (.int c)] [] = .ok (rpv T) [] ∧ m_count_union [.val (rpv T)] [] = .ok (.int j) [] ∧ Cnt (fun z => P z ∧ z < c) j) :
    ∀ (t : Nat) (lo hi : Int) (mid : Option SV), (hi - lo).toNat < t → lo ≤ hi → (∃ a, Cnt (fun z => P z ∧ z < lo) a ∧ a ≤ k) → (∃ b, Cnt (fun z => P z ∧ z < hi + 1) b ∧ k < b) →
      ∃ c mid', whileN l_nth_written_3a l_nth_written_3b t ⟨[some (.val (kern n (xs.map Stm.pv) (bs.map PV.int))), some (.val (.str nm)), some (.val (.int (k : Nat))), some (.val (rpv rows)), some (.val (.int lo)), some (.val (.int hi)), mid, none], []⟩ = .nx ⟨[some (.val (kern n (xs.map Stm.pv) (bs.map PV.int))), some (.val (.str nm)), some (.val (.int (k : Nat))), some (.val (rpv rows)), some (.val (.int c)), some (.val (.int c)), mid', none], []⟩ ∧ (∃ a, Cnt (fun z => P z ∧ z < c) a ∧ a ≤ k) ∧ (∃ b, Cnt (fun z => P z ∧ z < c + 1) b ∧ k < b) := by
  intro t
  induction t with
  | zero => intro lo hi mid h; omega
  | succ t ih =>
    intro lo hi mid ht hlh hA hB
    rw [whileN_succ]
    have cm : l_nth_written_3a ⟨[some (.val (kern n (xs.map Stm.pv) (bs.map PV.int))), some (.val (.str nm)), some (.val (.int (k : Nat))), some (.val (rpv rows)), some (.val (.int lo)), some (.val (.int hi)), mid, none], []⟩ = .ok (decide (lo < hi)) ⟨[some (.val (kern n (xs.map Stm.pv) (bs.map PV.int))), some (.val (.str nm)), some (.val (.int (k : Nat))), some (.val (rpv rows)), some (.val (.int lo)), some (.val (.int hi)), mid, none], []⟩ := cmp_t (p := .int lo) (q := .int hi) rfl rfl rfl
    rw [cm]
    simp only [Res.fl_ok]
    by_cases q : lo < hi
    · rw [if_pos (decide_eq_true q)]
      obtain ⟨md, hmd⟩ : ∃ md, md = (lo + hi) / 2 := ⟨_, rfl⟩
      obtain ⟨T, j, e1, e2, hj⟩ := hb (md + 1)
      have t1 : l_nth_written_3b_s1 ⟨[some (.val (kern n (xs.map Stm.pv) (bs.map PV.int))), some (.val (.str nm)), some (.val (.int (k : Nat))), some (.val (rpv rows)), some (.val (.int lo)), some (.val (.int hi)), mid, none], []⟩ = .nx ⟨[some (.val (kern n (xs.map Stm.pv) (bs.map PV.int))), some (.val (.str nm)), some (.val (.int (k : Nat))), some (.val (rpv rows)), some (.val (.int lo)), some (.val (.int hi)), some (.val (.int md)), none], []⟩ := by
        unfold l_nth_written_3b_s1
        refine asg_at (s1 := ⟨[some (.val (kern n (xs.map Stm.pv) (bs.map PV.int))), some (.val (.str nm)), some (.val (.int (k : Nat))), some (.val (rpv rows)), some (.val (.int lo)), some (.val (.int hi)), mid, none], []⟩) (bin_at (p := .int (lo + hi)) (q := .int 2) (bin_at rfl rfl rfl) rfl ?_) rfl
        show (if okDiv 2 = true then some (PV.int (Int.fdiv _ 2)) else none) = _
        rw [if_pos (by decide +kernel), Int.fdiv_eq_ediv_of_nonneg _ (by decide), hmd]
      have c2 : tOf (eBin pGt (eCall PM.m_count_union (avN 1 (lPv (eCall PM.m_rows_below (avN 2 (lPv (eVar 3) (lPv (eBin pAdd (eVar 6) (eC (.int 1))) lNil)))) lNil))) (eVar 2)) ⟨[some (.val (kern n (xs.map Stm.pv) (bs.map PV.int))), some (.val (.str nm)), some (.val (.int (k : Nat))), some (.val (rpv rows)), some (.val (.int lo)), some (.val (.int hi)), some (.val (.int md)), none], []⟩ = .ok (decide ((j : Int) > k)) ⟨[some (.val (kern n (xs.map Stm.pv) (bs.map PV.int))), some (.val (.str nm)), some (.val (.int (k : Nat))), some (.val (rpv rows)), some (.val (.int lo)), some (.val (.int hi)), some (.val (.int md)), none], []⟩ := cmp_t (p := .int j) (q := .int k) (call1v (call2v (q := .int (md + 1)) rfl (bin_at rfl rfl rfl) e1) e2) rfl rfl
      by_cases g : k < j
      · rw [decide_eq_true (by omega)] at c2
        have t2 : l_nth_written_3b ⟨[some (.val (kern n (xs.map Stm.pv) (bs.map PV.int))), some (.val (.str nm)), some (.val (.int (k : Nat))), some (.val (rpv rows)), some (.val (.int lo)), some (.val (.int hi)), mid, none], []⟩ = .nx ⟨[some (.val (kern n (xs.map Stm.pv) (bs.map PV.int))), some (.val (.str nm)), some (.val (.int (k : Nat))), some (.val (rpv rows)), some (.val (.int lo)), some (.val (.int md)), some (.val (.int md)), none], []⟩ := by
          unfold l_nth_written_3b
          rw [seq_nx t1]
          unfold l_nth_written_3b_s2
          exact one_nx ((if_yes c2).trans (one_nx rfl))
        rw [t2]
        exact ih lo md _ (by omega) (by omega) hA ⟨j, hj, g⟩
      · rw [decide_eq_false (by omega)] at c2
        have t2 : l_nth_written_3b ⟨[some (.val (kern n (xs.map Stm.pv) (bs.map PV.int))), some (.val (.str nm)), some (.val (.int (k : Nat))), some (.val (rpv rows)), some (.val (.int lo)), some (.val (.int hi)), mid, none], []⟩ = .nx ⟨[some (.val (kern n (xs.map Stm.pv) (bs.map PV.int))), some (.val (.str nm)), some (.val (.int (k : Nat))), some (.val (rpv rows)), some (.val (.int (md + 1))), some (.val (.int hi)), some (.val (.int md)), none], []⟩ := by
          unfold l_nth_written_3b
          rw [seq_nx t1]
          unfold l_nth_written_3b_s2
          exact one_nx ((if_els c2).trans (one_nx rfl))
        rw [t2]
        exact ih (md + 1) hi _ (by omega) (by omega) ⟨j, hj, by omega⟩ hB
    · obtain rfl : lo = hi := by omega
      rw [if_neg (by rw [decide_eq_true_iff]; exact q)]
      exact ⟨lo, mid, rfl, hA, hB⟩
theorem nth_is {P : Int → Prop} {k : Nat} {c : Int} (hA : ∃ a, Cnt (fun z => P z ∧ z < c) a ∧ a ≤ k) (hB : ∃ b, Cnt (fun z => P z ∧ z < c + 1) b ∧ k < b) : P c ∧ Cnt (fun z => P z ∧ z < c) k := by
  obtain ⟨a, ha, a1⟩ := hA
  obtain ⟨b, hb, b1⟩ := hB
  have pc : P c := by
    refine Classical.byContradiction fun q => ?_
    have := hb.le ha fun z hz => ⟨hz.1, by
      have : z ≠ c := fun e => q (e ▸ hz.1)
      have := hz.2
      omega⟩
    omega
  have h1 : Cnt (fun z => z = c) 1 := ⟨[c], by simp, by simp, rfl⟩
  obtain ⟨_, h2⟩ := ha.add h1 (Cnt.none (P := fun z => (P z ∧ z < c) ∧ z = c) fun z hz => by have := hz.1.2; have := hz.2; omega)
  have e := (h2.cg (Q := fun z => P z ∧ z < c + 1) fun z => by
    constructor
    · rintro (⟨h, k⟩ | rfl)
      · exact ⟨h, by omega⟩
      · exact ⟨pc, by omega⟩
    · rintro ⟨h, k⟩
      by_cases e : z = c
      · exact .inr e
      · exact .inl ⟨h, by omega⟩).one hb
  obtain rfl : a = k := by omega
  exact ⟨pc, ha⟩
theorem e_nth_written (W : WH n M xs) (hz : Nm nm) {m k : Nat} (hm : Cnt (Wr xs nm) m) (hk : k < m) : ∃ c : Int, m_nth_written [.val (kern n (xs.map Stm.pv) (bs.map PV.int)), .val (.str nm), .val (.int k)] [] = .ok (.int c) [] ∧ Wr xs nm c ∧ Cnt (fun z => Wr xs nm z ∧ z < c) k := by
  have hl := W.hl
  have wl := wr_len (xs := xs) (nm := nm)
  have ok := wr_ok (nm := nm) W
  have iW := wr_in (nm := nm) W
  have ew := e_written_rows (bs := bs) (nm := nm) (show xs.length ≤ 1000 by omega) W.ox W.bx hz
  have hb := e_below (nm := nm) W
  obtain ⟨k', ek, hk'⟩ := e_union W.M0 W.bM 14 (wrows nm (flat 0 xs)) (by omega) (by omega) ok
  generalize wrows nm (flat 0 xs) = rows at wl ok iW ew hb ek hk'
  obtain rfl := (hk'.cg iW).one hm
  have ne : rows ≠ [] := fun e => by
    subst e
    have := hk'.one InL.nil
    omega
  have t1 : q_nth_written_1 ⟨[some (.val (kern n (xs.map Stm.pv) (bs.map PV.int))), some (.val (.str nm)), some (.val (.int (k : Nat))), none, none, none, none, none], []⟩ = .nx ⟨[some (.val (kern n (xs.map Stm.pv) (bs.map PV.int))), some (.val (.str nm)), some (.val (.int (k : Nat))), none, none, none, none, none], []⟩ := drop_at (call1v rfl (e_check_array hz))
  have t2 : q_nth_written_2 ⟨[some (.val (kern n (xs.map Stm.pv) (bs.map PV.int))), some (.val (.str nm)), some (.val (.int (k : Nat))), none, none, none, none, none], []⟩ = .nx ⟨[some (.val (kern n (xs.map Stm.pv) (bs.map PV.int))), some (.val (.str nm)), some (.val (.int (k : Nat))), some (.val (rpv rows)), none, none, none, none], []⟩ := by
    unfold q_nth_written_2
    exact asg_at (s1 := ⟨[some (.val (kern n (xs.map Stm.pv) (bs.map PV.int))), some (.val (.str nm)), some (.val (.int (k : Nat))), none, none, none, none, none], []⟩) (call2v rfl rfl ew) rfl
  have ec : eCall PM.m_count_union (avN 1 (lPv (eVar 3) lNil)) ⟨[some (.val (kern n (xs.map Stm.pv) (bs.map PV.int))), some (.val (.str nm)), some (.val (.int (k : Nat))), some (.val (rpv rows)), none, none, none, none], []⟩ = .ok (.int k') ⟨[some (.val (kern n (xs.map Stm.pv) (bs.map PV.int))), some (.val (.str nm)), some (.val (.int (k : Nat))), some (.val (rpv rows)), none, none, none, none], []⟩ := call1v rfl ek
  have t3 : q_nth_written_3 ⟨[some (.val (kern n (xs.map Stm.pv) (bs.map PV.int))), some (.val (.str nm)), some (.val (.int (k : Nat))), some (.val (rpv rows)), none, none, none, none], []⟩ = .nx ⟨[some (.val (kern n (xs.map Stm.pv) (bs.map PV.int))), some (.val (.str nm)), some (.val (.int (k : Nat))), some (.val (rpv rows)), none, none, none, none], []⟩ := by
    unfold q_nth_written_3
    refine if_no (nt_t (b := true) ?_)
    have := chain_t (st := ⟨[some (.val (kern n (xs.map Stm.pv) (bs.map PV.int))), some (.val (.str nm)), some (.val (.int (k : Nat))), some (.val (rpv rows)), none, none, none, none], []⟩) (fa := eC (.int 0)) (fb := eVar 2) (fc := eCall PM.m_count_union (avN 1 (lPv (eVar 3) lNil))) (i := 0) (j := k) (k := k') rfl rfl ec
    rw [decide_eq_true ⟨by omega, by omega⟩] at this
    exact this
  have c1 := compL_M (vs := [7]) (a := l_nth_written_1c) (fe := l_nth_written_1e) (s := ⟨[some (.val (kern n (xs.map Stm.pv) (bs.map PV.int))), some (.val (.str nm)), some (.val (.int (k : Nat))), some (.val (rpv rows)), none, none, none, none], []⟩) Rw.pv (fun R => .int R.l) rows (by omega) (by
    intro R hR
    exact ⟨⟨[some (.val (kern n (xs.map Stm.pv) (bs.map PV.int))), some (.val (.str nm)), some (.val (.int (k : Nat))), some (.val (rpv rows)), none, none, none, some (.val (R.pv))], []⟩, rfl, ⟨[some (.val (kern n (xs.map Stm.pv) (bs.map PV.int))), some (.val (.str nm)), some (.val (.int (k : Nat))), some (.val (rpv rows)), none, none, none, some (.val (R.pv))], []⟩, bin_at (p := R.pv) rfl rfl (at0 _ _), rfl⟩)
  have c2 := compL_M (vs := [7]) (a := l_nth_written_2c) (fe := l_nth_written_2e) (s := ⟨[some (.val (kern n (xs.map Stm.pv) (bs.map PV.int))), some (.val (.str nm)), some (.val (.int (k : Nat))), some (.val (rpv rows)), none, none, none, none], []⟩) Rw.pv (fun R => .int R.h) rows (by omega) (by
    intro R hR
    exact ⟨⟨[some (.val (kern n (xs.map Stm.pv) (bs.map PV.int))), some (.val (.str nm)), some (.val (.int (k : Nat))), some (.val (rpv rows)), none, none, none, some (.val (R.pv))], []⟩, rfl, ⟨[some (.val (kern n (xs.map Stm.pv) (bs.map PV.int))), some (.val (.str nm)), some (.val (.int (k : Nat))), some (.val (rpv rows)), none, none, none, some (.val (R.pv))], []⟩, bin_at (p := R.pv) rfl rfl (at1 _ _ _), rfl⟩)
  have f1 := comp_at (l := rows.map Rw.pv) (any_i (st := ⟨[some (.val (kern n (xs.map Stm.pv) (bs.map PV.int))), some (.val (.str nm)), some (.val (.int (k : Nat))), some (.val (rpv rows)), none, none, none, none], []⟩) (fa := eVar 3) rfl) c1 rfl
  have f2 := comp_at (l := rows.map Rw.pv) (any_i (st := ⟨[some (.val (kern n (xs.map Stm.pv) (bs.map PV.int))), some (.val (.str nm)), some (.val (.int (k : Nat))), some (.val (rpv rows)), none, none, none, none], []⟩) (fa := eVar 3) rfl) c2 rfl
  have ml : pMin1 [.lst (rows.map fun R => PV.int R.l)] = some (.int (minI (rows.map Rw.l))) := by
    have := int_lst (rows.map Rw.l)
    rw [List.map_map] at this
    show (match allInt (rows.map (PV.int ∘ Rw.l)) with
      | some (x :: r) => some (PV.int (minI (x :: r)))
      | _ => none) = _
    rw [this]
    cases rows with
    | nil => exact absurd rfl ne
    | cons _ _ => rfl
  have mh : pMax1 [.lst (rows.map fun R => PV.int R.h)] = some (.int (maxI (rows.map Rw.h))) := by
    have := int_lst (rows.map Rw.h)
    rw [List.map_map] at this
    show (match allInt (rows.map (PV.int ∘ Rw.h)) with
      | some (x :: r) => some (PV.int (maxI (x :: r)))
      | _ => none) = _
    rw [this]
    cases rows with
    | nil => exact absurd rfl ne
    | cons _ _ => rfl
  have g1 := minI_mem (l := rows.map Rw.l) (by simpa using ne)
  have g2 := maxI_mem (l := rows.map Rw.h) (by simpa using ne)
  obtain ⟨lo, hlo⟩ : ∃ lo, lo = minI (rows.map Rw.l) := ⟨_, rfl⟩
  obtain ⟨hi, hhi⟩ : ∃ hi, hi = maxI (rows.map Rw.h) := ⟨_, rfl⟩
  rw [← hlo] at ml g1
  rw [← hhi] at mh g2
  have t4 : q_nth_written_4 ⟨[some (.val (kern n (xs.map Stm.pv) (bs.map PV.int))), some (.val (.str nm)), some (.val (.int (k : Nat))), some (.val (rpv rows)), none, none, none, none], []⟩ = .nx ⟨[some (.val (kern n (xs.map Stm.pv) (bs.map PV.int))), some (.val (.str nm)), some (.val (.int (k : Nat))), some (.val (rpv rows)), some (.val (.int lo)), some (.val (.int hi)), none, none], []⟩ := by
    unfold q_nth_written_4
    exact par_at (acons_at (callB1_at f1 ml) (acons_at (callB1_at f2 mh) rfl)) rfl
  have low : ∀ z, Wr xs nm z → lo ≤ z ∧ z < hi := fun z hz => by
    obtain ⟨R, hR, k1, k2, _⟩ := (iW z).mpr hz
    have := g1.2 _ (List.mem_map.mpr ⟨R, hR, rfl⟩)
    have := g2.2 _ (List.mem_map.mpr ⟨R, hR, rfl⟩)
    omega
  obtain ⟨z0, hz0⟩ := hm.pos.mp (by omega)
  have hlh := low z0 hz0
  obtain ⟨c, mid', hw, hA, hB⟩ := nth_loop (n := n) (xs := xs) (bs := bs) (nm := nm) (k := k) (P := Wr xs nm) hb ((hi - lo).toNat + 1) lo hi none (by omega) (by omega) ⟨0, Cnt.none fun z hz => by have := low z hz.1; have := hz.2; omega, by omega⟩ ⟨k', hm.cg fun z => ⟨fun h => ⟨h, by have := low z h; omega⟩, fun h => h.1⟩, hk⟩
  have t5 : q_nth_written_5 ⟨[some (.val (kern n (xs.map Stm.pv) (bs.map PV.int))), some (.val (.str nm)), some (.val (.int (k : Nat))), some (.val (rpv rows)), some (.val (.int lo)), some (.val (.int hi)), none, none], []⟩ = .nx ⟨[some (.val (kern n (xs.map Stm.pv) (bs.map PV.int))), some (.val (.str nm)), some (.val (.int (k : Nat))), some (.val (rpv rows)), some (.val (.int c)), some (.val (.int c)), mid', none], []⟩ := by
    unfold q_nth_written_5
    exact gWhile_eq hw (by simp)
  have t6 : q_nth_written_6 ⟨[some (.val (kern n (xs.map Stm.pv) (bs.map PV.int))), some (.val (.str nm)), some (.val (.int (k : Nat))), some (.val (rpv rows)), some (.val (.int c)), some (.val (.int c)), mid', none], []⟩ = .rt (.int c) ⟨[some (.val (kern n (xs.map Stm.pv) (bs.map PV.int))), some (.val (.str nm)), some (.val (.int (k : Nat))), some (.val (rpv rows)), some (.val (.int c)), some (.val (.int c)), mid', none], []⟩ := rfl
  obtain ⟨r1, r2⟩ := nth_is hA hB
  refine ⟨c, ?_, r1, r2⟩
  unfold m_nth_written
  rw [g_nth_written_eq]
  simp only [mOf, start0, List.map_cons, List.map_nil, List.length_cons, List.length_nil, Nat.reduceAdd, Nat.reduceSub, List.replicate, List.cons_append, List.nil_append]
  rw [seq_nx t1, seq_nx t2, seq_nx t3, seq_nx t4, seq_nx t5, seq_rt t6]
  rfl
end
end PM
/-! PLX1: try: body / except x as n: suite, where the exception's object is kept behind the suite: from then on it is tracked. -/
namespace L2
open PySem PySem.Spec PyProof.Rows
section
variable {X : Cx} {pins : List (Addr × Obj)} {σ : St} {H : Hp} {s : Shared}
/-- an object that stands there already, made since the entry, is tracked from now on -/
theorem Inv.track {a : Addr} {o : HO} (I : Inv X pins σ H s) (hn : H a = none) (new : ObjOk X.prog X.w (upd H a o) s.heap a o) (h0 : X.s_0.heap.get? a = none) (nL : a ≠ X.env.locals) (nC : ∀ x c, X.env.cells.lookup x = some c → c ≠ a)
    (np : ∀ p ∈ X.pn ++ pins, p.1 ≠ a) : Inv X pins σ (upd H a o) s := by
  have ne0 : ∀ b u, X.s_0.heap.get? b = some u → b ≠ a := fun b u e z => by
    rw [z, h0] at e
    cases e
  refine ⟨I.ok, I.os, I.bare, ⟨I.base.keep, I.base.slot, fun b u e n hx => ?_, I.base.there, fun b xs e => ?_, fun b u xs e => ?_, fun b ps e => ?_⟩, I.loc, I.cell, ?_, fun x c e => ?_, fun p hp => ?_, I.hok.laidN (fun _ _ h => h) hn new, I.len⟩
  · rw [upd_ne (ne0 b u e)]
    exact I.base.free b u e n hx
  · have q := I.base.tups b xs e
    rw [upd_ne (ne_of_none q hn)]
    exact q
  · have q := I.base.frzs b u xs e
    rw [upd_ne (ne_of_none q hn)]
    exact q
  · obtain ⟨m, q⟩ := I.base.tbls b ps e
    exact ⟨m, by rw [upd_ne (ne_of_none q hn)]; exact q⟩
  · rw [upd_ne (Ne.symm nL)]
    exact I.free
  · rw [upd_ne (nC x c e)]
    exact I.freeC x c e
  · obtain ⟨e, n, r⟩ := I.pin p hp
    exact ⟨e, by rw [upd_ne (np p hp)]; exact n, r⟩
end
/-- what is known of the exception's object at a, apart from the state -/
structure Apart (X : Cx) (pins : List (Addr × Obj)) (a : Addr) : Prop where
  ent : X.s_0.heap.get? a = none
  loc : a ≠ X.env.locals
  fs : a ∉ X.fs
  pin : ∀ p ∈ X.pn ++ pins, p.1 ≠ a
section
variable {X : Cx} {pins : List (Addr × Obj)} {σ : St} {H : Hp} {s : Shared} {a : Addr} {B : Heap} {cls : Value} {d : Option Addr}
theorem apart_of {sI : Shared} {l : List Env} (hex : X.ex = []) (hs : X.stack = X.env :: X.outer) (hf : X.env.frame = some X.env.locals) (J : Inv X pins σ H sI) (nb : ∀ b o, sI.heap.get? b = some o → b ∉ frs X.stack → B.get? b = some o)
    (z : HandSPX.FlyingZ B (X.env :: X.outer) a (L2N.Zn cls d) s.heap) : Apart X pins a := by
  obtain ⟨_, hen, ff, oe, vs, _, _, _, he, _, hd, _⟩ := z
  have off : a ∉ frs X.stack := fun hm => by
    rw [hs] at hm
    obtain ⟨_, o', e', hnf⟩ := ff.mem hm
    rw [he] at e'
    cases e'
    exact hnf _ hd
  have no : ∀ o, sI.heap.get? a ≠ some o := fun o q => by
    have q2 := nb a o q off
    rw [hen] at q2
    cases q2
  have mem : ∀ e ∈ X.stack, e.frame = some a → False := fun e he' q => off (List.mem_filterMap.mpr ⟨e, he', q⟩)
  refine ⟨?_, fun z => mem X.env (by rw [hs]; exact List.mem_cons_self) (by rw [hf, z]), fun hm => ?_, fun p hp z => ?_⟩
  · cases q : X.s_0.heap.get? a with
    | none => rfl
    | some o =>
      obtain ⟨o', q1⟩ := J.base.there a o q (by rw [hex]; exact fun z => nomatch z)
      exact absurd q1 (no o')
  · obtain ⟨e, he', q⟩ := List.mem_filterMap.mp hm
    exact mem e (by rw [hs]; exact List.mem_cons_of_mem _ he') q
  · have q := (J.pin p hp).1
    rw [z] at q
    exact no _ q
end
end L2
/-! PLX2: an exception object as a value (PV.exi): caught and kept, isinstance, .value. -/
namespace L2
open PySem PySem.Spec PyProof.Rows
section
variable {X : Cx} {pins : List (Addr × Obj)} {σ : St} {H : Hp} {s : Shared}
theorem exi_inst {a D dd : Addr} {fs : List (Str × V)} (I : Inv X pins σ H s) (h1 : H a = some (PL.ExV (.ref D) dd a)) (h2 : H dd = some (.xd fs)) :
    ∃ oe od, PySem.W.InstAt s.heap a oe D (some od) ∧ ∀ f v, fs.lookup f = some v → ∃ u, RelV v u ∧ PySem.W.lookIn f od = some (some u) := by
  obtain ⟨⟨oe, vs, e1, hz, hd⟩, _, _⟩ := I.hok a _ h1
  obtain ⟨mA, hns, hr⟩ := I.hok dd _ h2
  obtain ⟨od, ho, hl⟩ := lookIn_ns hns
  refine ⟨oe, od, ⟨e1, hz.1, by unfold PySem.W.notCls; rw [hd] <;> rfl, by rw [hz.2.1]; exact ho⟩, fun f v hf => ?_⟩
  obtain ⟨u, hu, ru⟩ := RelO.some_of (v := v) (o := mA f) (by rw [← hf]; exact hr f)
  exact ⟨u, ru, by rw [hl, hu]⟩
theorem exi_kit {x D : Addr} {ox : Obj} {od : Option Obj} {K : PySem.W.Frag} (C : L2.ExcC K D) : PySem.W.KitX K (.ref x) (.ref D) (fun h => PySem.W.InstAt h x ox D od) := by
  obtain ⟨cd, hc, _⟩ := PySem.W.any_some C.hd
  refine PySem.W.kitx_exc (by rw [hc] <;> rfl) C.hg C.hk C.hs C.ha C.hn C.ht C.hm
/-- isinstance(e, c), e an exception object -/
def rIsX (K : PySem.W.Frag) : List V → Hp → VK → Prop := fun xs H Q => ∃ (a D dd : Addr) (fs : List (Str × V)) (c : V) (u : Value) (b : Bool), xs = [.ref a, c] ∧ ClsV c u ∧ H a = some (PL.ExV (.ref D) dd a) ∧ H dd = some (.xd fs) ∧ L2.ExcC K D ∧ PySem.W.kitOne K (.ref D) u = some b ∧ Q (.bl b) H
theorem call_isX : CallR X (.builtin "isinstance") (rIsX X.K) := by
  intro pins s σ H xs us Q I r h
  obtain ⟨a, D, dd, fs, c, u, b, rfl, k, h1, h2, hc, e, q⟩ := h
  obtain ⟨u1, u2, rfl, r1, r2⟩ := vals2 r
  have e2 := k.eq r2
  subst e2
  cases (show u1 = Value.ref a from r1)
  obtain ⟨oe, od, J, _⟩ := exi_inst I h1 h2
  exact PySem.W.kia_one (exi_kit hc) I.kIn J e (fun z => nomatch z) fun tk => ⟨.bl b, H, I.tok tk, rfl, q⟩
/-- e.n of an exception object -/
def tXv (K : PySem.W.Frag) (n : Str) (te : TE) : TE := fun σ H Q => te σ H fun x H1 => ∃ (a D dd : Addr) (fs : List (Str × V)) (v : V), x = .ref a ∧ H1 a = some (PL.ExV (.ref D) dd a) ∧ H1 dd = some (.xd fs) ∧ XfC K D ∧ PySem.W.findIn K (.ref D) n = some none ∧ fs.lookup n = some v ∧ Q v H1
theorem pe_xv {e : Expr} {te : TE} {pos : Pos} {n : Str} (he : PE X e te) (hb : attributeBase e n X.env (eval e X.env) = eval e X.env := by rfl) : PE X (.Attribute e n pos) (tXv X.K n te) := by
  refine ⟨fun pins s σ H Q I h => ?_⟩
  refine attr_of hb (thn (he.run pins s σ H _ I h) fun u s1 hh => ?_)
  obtain ⟨x, H1, I1, rx, a, D, dd, fs, v, rfl, h1, h2, T, hno, l, q⟩ := hh
  obtain rfl : u = Value.ref a := rx
  obtain ⟨oe, od, J, hl⟩ := exi_inst I1 h1 h2
  obtain ⟨w, rw_, lw⟩ := hl n v l
  exact HandSPX.exc_get I1.kIn J T.ga T.gg T.exC (PySem.W.findObj_own T.hdC hno rfl lw) (handed_of rw_) ⟨v, H1, I1.tok _, rw_, q⟩
end
end L2
namespace PL
open PySem PySem.Spec PyProof.Rows L2
/-! ### the classes -/
def errNames : List Str := ["InvalidGuard", "InvalidLanes", "InvalidStatement", "InvalidBarrier", "InvalidAccess", "InvalidNumber", "InvalidArray", "InvalidSchedule", "UnlikeLanes", "Racing", "NotPlain", "NothingToUndo", "Unreadable", "StrideError"]
def tgNames : List Str := ("ValueError" : Str) :: errNames
def exSub (c t : Str) : Bool := c == t || t == "StrideError" || t == "ValueError"
def clsU (cl : Str → Addr) (t : Str) : Value := if t = "ValueError" then .type "ValueError" else .ref (cl t)
/-- what is told of the error classes -/
structure ErrK (K : PySem.W.Frag) (cl : Str → Addr) : Prop where
  one : ∀ c ∈ errNames, ∀ t ∈ tgNames, PySem.W.kitOne K (.ref (cl c)) (clsU cl t) = some (exSub c t)
  exc : ∀ c ∈ errNames, L2.ExcC K (cl c)
  xf : ∀ c ∈ errNames, XfC K (cl c)
  val : ∀ c ∈ errNames, PySem.W.findIn K (.ref (cl c)) "value" = some none
  exm : ∀ c ∈ errNames, PySem.W.exmOne K (.ref (cl c)) (.ref (cl "StrideError")) = some true
def excB (K : PySem.W.Frag) (D : Addr) : Bool :=
  xfB K D && (decide (PySem.W.findIn K (.ref D) "__class__" = some (some (.builtin "object.__class__"))) && (decide (PySem.W.mroIn K D (.type "object") = some true) && decide (PySem.W.findIn K (.ref D) "value" = some none)))
def errKB (K : PySem.W.Frag) (cl : Str → Addr) : Bool :=
  (decide (PySem.W.specialIn K (.builtin "object.__class__") "__get__" = some (some (.builtin "getset_descriptor.__get__"))) && decide (PySem.W.takesIn K (.builtin "object.__class__") = some true)) &&
  errNames.all fun c => excB K (cl c) && (decide (PySem.W.exmOne K (.ref (cl c)) (.ref (cl "StrideError")) = some true) && tgNames.all fun t => decide (PySem.W.kitOne K (.ref (cl c)) (clsU cl t) = some (exSub c t)))
theorem errKB_ok {K : PySem.W.Frag} {cl : Str → Addr} (h : errKB K cl = true) : ErrK K cl := by
  unfold errKB at h
  rw [Bool.and_eq_true, Bool.and_eq_true, List.all_eq_true] at h
  obtain ⟨⟨h1, h2⟩, h3⟩ := h
  have h1 := of_decide_eq_true h1
  have h2 := of_decide_eq_true h2
  have k : ∀ c ∈ errNames, excB K (cl c) = true ∧ PySem.W.exmOne K (.ref (cl c)) (.ref (cl "StrideError")) = some true ∧ ∀ t ∈ tgNames, PySem.W.kitOne K (.ref (cl c)) (clsU cl t) = some (exSub c t) := fun c hc => by
    have z := h3 c hc
    rw [Bool.and_eq_true, Bool.and_eq_true, List.all_eq_true] at z
    exact ⟨z.1, of_decide_eq_true z.2.1, fun t ht => of_decide_eq_true (z.2.2 t ht)⟩
  have e : ∀ c ∈ errNames, XfC K (cl c) ∧ PySem.W.findIn K (.ref (cl c)) "__class__" = some (some (.builtin "object.__class__")) ∧ PySem.W.mroIn K (cl c) (.type "object") = some true ∧ PySem.W.findIn K (.ref (cl c)) "value" = some none := fun c hc => by
    have z := (k c hc).1
    unfold excB at z
    rw [Bool.and_eq_true, Bool.and_eq_true, Bool.and_eq_true] at z
    exact ⟨xfB_ok z.1, of_decide_eq_true z.2.1, of_decide_eq_true z.2.2.1, of_decide_eq_true z.2.2.2⟩
  exact ⟨fun c hc => (k c hc).2.2, fun c hc => ⟨(e c hc).1.ga, (e c hc).1.gg, (e c hc).1.exC, (e c hc).1.hdC, (e c hc).2.1, h1, h2, (e c hc).2.2.1⟩, fun c hc => (e c hc).1, fun c hc => (e c hc).2.2.2, fun c hc => (k c hc).2.1⟩
theorem ErrK.sw {K : PySem.W.Frag} {c0 c1 : Str → Addr} (e : ∀ c ∈ errNames, c1 c = c0 c) (T : ErrK K c0) : ErrK K c1 := by
  have eu : ∀ t ∈ tgNames, clsU c1 t = clsU c0 t := fun t ht => by
    unfold clsU
    split
    · rfl
    · rename_i z
      rcases List.mem_cons.mp ht with h | h
      · exact absurd h z
      · rw [e t h]
  refine ⟨fun c hc t ht => ?_, fun c hc => ?_, fun c hc => ?_, fun c hc => ?_, fun c hc => ?_⟩
  · rw [e c hc, eu t ht]; exact T.one c hc t ht
  · rw [e c hc]; exact T.exc c hc
  · rw [e c hc]; exact T.xf c hc
  · rw [e c hc]; exact T.val c hc
  · rw [e c hc, e _ (by decide)]; exact T.exm c hc
theorem errK_clT {K : PySem.W.Frag} {B : List (Str × Addr)} {c0 : Str → Addr} (h : errKB K c0 = true) : ErrK K (clT B c0) :=
  (errKB_ok h).sw fun c hc => by
    unfold clT
    have no : ∀ c ∈ errNames, c ∉ tabNames.map tabKey := by decide +kernel
    rw [if_neg (no c hc)]
/-! ### the rules -/
section
variable {X : Cx} {C : Fx} {W : WX} {e : Expr} {pos : Pos} {fe : Stt → Res PV} {body : List Stmt} {gb : Stt → Fl}
/-- isinstance(e, t) / isinstance(e, (t1, ..)) of an exception object -/
def eIsX (ts : List Str) (fe : Stt → Res PV) : Stt → Res PV := fun s => (fe s).bind fun p s1 => match p with
  | .exi c _ => if c ∈ errNames then .ok (.bl (ts.any (exSub c))) s1 else .stuck
  | _ => .stuck
theorem dv_isX {t x : Str} {p p2 : Pos} (T : ErrK X.K C.cl) (ht : t ∈ errNames) (he : DV X C W e fe) (hg : Gl X "isinstance") (hm : X.mg "isinstance" = none) (hgC : Gl X x) (hmC : X.mg x = some (.ref (C.cl t)))
    (h1 : starEach [e, .Name x p2] X.env = (false, eval e X.env) :: starEach [.Name x p2] X.env := by rfl) (h2 : starEach [.Name x p2] X.env = (false, eval (.Name x p2) X.env) :: starEach [] X.env := by rfl) (hpl : (backTo pos (starEach [.Name x p2] X.env)).any (·.1) = false := by rfl) (hd : (x == ("__debug__" : Str)) = false := by decide) :
    DV X C W (.Call (.Name "isinstance" p) [e, .Name x p2] [] pos) (eIsX [t] fe) := by
  obtain ⟨te, pe, qe⟩ := he.pr
  refine ⟨_, pe_callB call_isX hg hm (by first | rfl | kernel_rfl | decide +kernel) (pa_cons pe (pa_cons (pe_glob (v := .ref (C.cl t)) hgC hmC rfl hd) pa_nil h2) h1) (he := h1) (hpl := hpl), fun F A H σ s Q ok pp => ?_⟩
  refine qe F A H σ s _ ok (pp.seq fun q1 s1 v1 F1 A1 H1 _ o1 st1 r1 p1 => ?_)
  cases r1 with
  | @exi a dx c u pv h3 h4 h5 =>
    simp only at p1
    split at p1
    · rename_i hc
      have k := T.one c hc t (List.mem_cons_of_mem _ ht)
      have nv : t ≠ "ValueError" := fun z => absurd (z ▸ ht) (by decide)
      have ek : clsU C.cl t = .ref (C.cl t) := if_neg nv
      rw [ek] at k
      have e1 : [t].any (exSub c) = exSub c t := by simp
      rw [e1] at p1
      exact ⟨a, _, dx, _, .ref (C.cl t), .ref (C.cl t), _, rfl, .own _, o1.sub _ _ h3, o1.sub _ _ h4, T.exc c hc, k, Post.now o1 p1 (.bl _)⟩
    · exact p1.elim
  | _ => exact p1.elim
theorem dv_isXve {p p2 : Pos} (T : ErrK X.K C.cl) (he : DV X C W e fe) (hg : Gl X "isinstance") (hm : X.mg "isinstance" = none) (hgC : Gl X "ValueError") (hmC : X.mg "ValueError" = none)
    (h1 : starEach [e, .Name "ValueError" p2] X.env = (false, eval e X.env) :: starEach [.Name "ValueError" p2] X.env := by rfl) (h2 : starEach [.Name "ValueError" p2] X.env = (false, eval (.Name "ValueError" p2) X.env) :: starEach [] X.env := by rfl) (hpl : (backTo pos (starEach [.Name "ValueError" p2] X.env)).any (·.1) = false := by rfl) :
    DV X C W (.Call (.Name "isinstance" p) [e, .Name "ValueError" p2] [] pos) (eIsX ["ValueError"] fe) := by
  obtain ⟨te, pe, qe⟩ := he.pr
  refine ⟨_, pe_callB call_isX hg hm (by first | rfl | kernel_rfl | decide +kernel) (pa_cons pe (pa_cons (pe_bltn (v := .ty "ValueError") hgC hmC (by first | rfl | kernel_rfl | decide +kernel) rfl (by decide) (by decide)) pa_nil h2) h1) (he := h1) (hpl := hpl), fun F A H σ s Q ok pp => ?_⟩
  refine qe F A H σ s _ ok (pp.seq fun q1 s1 v1 F1 A1 H1 _ o1 st1 r1 p1 => ?_)
  cases r1 with
  | @exi a dx c u pv h3 h4 h5 =>
    simp only at p1
    split at p1
    · rename_i hc
      have k := T.one c hc "ValueError" List.mem_cons_self
      have e1 : [("ValueError" : Str)].any (exSub c) = exSub c "ValueError" := by simp
      rw [e1] at p1
      exact ⟨a, _, dx, _, .ty "ValueError", .type "ValueError", _, rfl, .ty _, o1.sub _ _ h3, o1.sub _ _ h4, T.exc c hc, k, Post.now o1 p1 (.bl _)⟩
    · exact p1.elim
  | _ => exact p1.elim
/-- e.value -/
def eXv (fe : Stt → Res PV) : Stt → Res PV := fun s => (fe s).bind fun p s1 => match p with
  | .exi c v => if c ∈ errNames then .ok v s1 else .stuck
  | _ => .stuck
theorem dv_xv (T : ErrK X.K C.cl) (he : DV X C W e fe) (hb : attributeBase e "value" X.env (eval e X.env) = eval e X.env := by rfl) : DV X C W (.Attribute e "value" pos) (eXv fe) := by
  obtain ⟨te, pe, qe⟩ := he.pr
  refine ⟨_, pe_xv pe hb, fun F A H σ s Q ok pp => ?_⟩
  refine qe F A H σ s _ ok (pp.seq fun q1 s1 v1 F1 A1 H1 _ o1 st1 r1 p1 => ?_)
  cases r1 with
  | @exi a dx c u pv h3 h4 h5 =>
    simp only at p1
    split at p1
    · rename_i hc
      exact ⟨a, _, dx, _, u, rfl, o1.sub _ _ h3, o1.sub _ _ h4, T.xf c hc, T.val c hc, by simp [List.lookup], Post.now o1 p1 h5⟩
    · exact p1.elim
  | _ => exact p1.elim
/-! ### lists of bools -/
end
end PL
namespace PL
open PySem
end PL
/-! PXK: an own error made by keyword: E(value=v). -/
/-! PLX3: an own error made as a value: E(v), E(value=v). -/
namespace PL
open PySem PySem.Spec PyProof.Rows L2
section
variable {X : Cx} {Cc D fI : Addr} {nm : Str} {pins : List (Addr × Obj)} {σ : L2.St} {H : Hp} {s : Shared}
/-- a made error, tracked from now on -/
theorem Inv.made {h' : Heap} {tk : Nat} {e d : Addr} {v : V} {v' : Value} (I : L2.Inv X pins σ H s) (hex : X.ex = []) (M : PXE.Made s.heap h' e Cc d v') (rv : RelV v v') :
    L2.Inv X pins σ (upd (upd H d (.xd [(("value" : Str), v)])) e (ExV (.ref Cc) d e)) { s with heap := h', toks := tk } := by
  obtain ⟨oe, fv, hoe, hc, hd, hdat, h1, h1c⟩ := M.obj
  have gone : ∀ b o, s.heap.get? b = some o → b ≠ e := fun b o q => Nat.ne_of_lt (Nat.lt_of_lt_of_le (Heap.lt_size q) M.new)
  have ob : ObjOk X.prog X.w (upd H d (.xd [(("value" : Str), v)])) h' d (.xd [(("value" : Str), v)]) := ⟨_, M.ns, fun f => rel_err rv f⟩
  have J : L2.Inv X pins σ (upd H d (.xd [(("value" : Str), v)])) { s with heap := h', toks := tk } := by
    obtain ⟨hp, g, dr, t0, os⟩ := s
    exact I.laid (t' := tk) M.keep M.dbig ob
  refine J.track (by rw [upd_ne (Ne.symm M.dne)]; exact I.hok.fresh M.new) ⟨⟨oe, fv, hoe, ⟨hc, hd, fun vs e => by rw [hdat] at e; cases e; exact h1c⟩, hdat⟩, ⟨oe, hoe⟩, fun _ _ ⟨o, v, q, r⟩ k => ⟨o, v, k o q, r⟩⟩ ?_ ?_ ?_ ?_
  · cases q : X.s_0.heap.get? e with
    | none => rfl
    | some o =>
      obtain ⟨o', q1⟩ := I.base.there e o q (by rw [hex]; exact fun z => nomatch z)
      exact absurd rfl (gone e o' q1)
  · obtain ⟨m, hm, _⟩ := I.loc
    exact Nat.ne_of_gt (Nat.lt_of_lt_of_le hm.lt M.new)
  · intro x c hx
    obtain ⟨v, o', e', _⟩ := I.cell x c hx
    exact gone c o' e'
  · exact fun p hp => gone p.1 _ (I.pin p hp).1
end
end PL
/-! PLH1: walks that end, tuples taken apart, while an exception is handled. -/
namespace PLH
open PySem PySem.Spec PyProof.Rows HotX
section
variable {prog : Program} {w : World} {A : Around} {E : Value → Shared → Prop} {s : Shared}
abbrev Old (it : Addr) (h h' : Heap) : Prop := ∀ b o, b ≠ it → h.get? b = some o → h'.get? b = some o
theorem HotAt.off {x1 it : Addr} {h : Heap} {o : Obj} {u v : Value} (hot : HotAt A x1 h) (ho : h.get? it = some o) (hd : o.data = .fields #[u, v]) : x1 ≠ it := by
  obtain ⟨_, oX, vX, eX, dX, cX⟩ := hot
  intro z
  rw [z, ho] at eX
  cases eX
  rw [hd] at dX
  cases dX
  cases cX
theorem HotAt.keep {x1 : Addr} {h h' : Heap} (hot : HotAt A x1 h) (k : ∀ o, h.get? x1 = some o → h'.get? x1 = some o) : HotAt A x1 h' := by
  obtain ⟨hh, oX, vX, eX, dX, cX⟩ := hot
  exact ⟨hh, oX, vX, k _ eX, dX, cX⟩
/-- the walk over a list ends while x1 is handled -/
theorem listEnd {it l x1 : Addr} {i : Nat} {items : Array Value} {Q : Option Value → Shared → Prop} (hot : HotAt A x1 s.heap) (hit : s.heap.IsListIter it l i) (hl : s.heap.IsList l items) (hx : items[i]? = none)
    (hQ : ∀ h', Old it s.heap h' → Q none { s with heap := h' }) : wpAny (model prog w) A (pyNext (.ref it)) Q E s := by
  obtain ⟨oI, eI, cI, dI⟩ := id hit
  obtain ⟨oL, eL, _, nL, dL⟩ := hl
  have off : x1 ≠ it := HotAt.off hot eI dI
  unfold pyNext
  refine wpAny_bind (wpAny_attempt (wpAny_callSpecial?_slot (name := Str.ofString "__next__") hit.typeIs slot_listiter_next (wpAny_call_entry slot_listiter_next hit.typeIs entry_listiter_next ?_ (args_listiter_next _))))
  show wpAny _ _ (field (.ref it) 0 >>= _) _ _ s
  refine wpAny_bind (wpAny_field eI dI (x := .ref l) rfl ?_)
  show wpAny _ _ (if (Value.ref l == Value.none) = true then _ else _) _ _ s
  rw [if_neg (show ¬ ((Value.ref l == Value.none) = true) from fun z => Bool.noConfusion z)]
  show wpAny _ _ (field (.ref it) 1 >>= _) _ _ s
  refine wpAny_bind (wpAny_field eI dI (x := .int i 0) rfl ?_)
  show wpAny _ _ (seqItems? (.ref l) >>= _) _ _ s
  refine wpAny_bind (wpAny_seqItems eL dL ?_)
  simp only [Int.toNat_natCast, hx]
  refine wpAny_bind (wpAny_rule (wpAny_bind (wpAny_setField eI dI (by simp) ?_)))
  show wpAny _ _ (newExc (.type "StopIteration") [] >>= _) _ _ _
  refine wpAny_bind ?_
  simp only [newExc, newTuple]
  refine wpAny_bind (wpAny_newObj_type ?_ (by size_fits))
  refine wpAny_bind (m := firstArgMember _ _) (wpAny_of_eq (a := Value.none) (by first | rfl | (simp only [firstArgMember]; rfl)) ?_)
  refine wpAny_newObj_type ?_ (by size_fits)
  have k1 : ∀ o, s.heap.get? x1 = some o → (s.heap.update it (Obj.mapFields (·.setIfInBounds 0 Value.none))).get? x1 = some o := fun o e => by rw [Heap.get?_update_other _ _ (Ne.symm off)]; exact e
  refine raiseNew_hot (HotAt.keep hot fun o e => Heap.get?_push_of_some _ (Heap.get?_push_of_some _ (k1 o e))) ?_ (Heap.get?_push_size _ rfl) rfl (by first | (simp; done) | (simp; omega) | (simp only [Array.size_append]; simp; omega)) ?_
  · obtain ⟨_, oX, _, eX, _⟩ := hot
    exact Nat.ne_of_lt (Heap.lt_size (Heap.get?_push_of_some _ (k1 oX eX)))
  refine wpAny_bind (wpAny_isInstance (T := "StopIteration") (b := true) ⟨_, Heap.get?_update_self _ (Heap.get?_push_size _ rfl) rfl, rfl⟩ isSubtype_stop ?_)
  refine wpAny_pure (hQ _ fun b o hb e => ?_)
  have e1 : (s.heap.update it (Obj.mapFields (·.setIfInBounds 0 Value.none))).get? b = some o := by rw [Heap.get?_update_other _ _ (Ne.symm hb)]; exact e
  have e2 := Heap.get?_push_of_some (h := s.heap.update it (Obj.mapFields (·.setIfInBounds 0 Value.none))) { cls := .type "tuple", data := .seq ([] : List Value).toArray } e1
  rw [Heap.get?_update_other _ _ (Ne.symm (Nat.ne_of_lt (Heap.lt_size e2)))]
  exact Heap.get?_push_of_some _ e2
/-- the walk over a tuple ends while x1 is handled -/
theorem tupEnd {it l x1 : Addr} {i : Nat} {items : Array Value} {Q : Option Value → Shared → Prop} (hot : HotAt A x1 s.heap) (hit : IsTupIter s.heap it l i) (hl : IsTup s.heap l items) (hx : items[i]? = none)
    (hQ : ∀ h', Old it s.heap h' → Q none { s with heap := h' }) : wpAny (model prog w) A (pyNext (.ref it)) Q E s := by
  obtain ⟨oI, eI, cI, dI⟩ := id hit
  obtain ⟨oL, eL, _, nL, dL⟩ := hl
  have off : x1 ≠ it := HotAt.off hot eI dI
  unfold pyNext
  refine wpAny_bind (wpAny_attempt (wpAny_callSpecial?_slot (name := Str.ofString "__next__") hit.typeIs slot_tupleiter_next (wpAny_call_entry slot_tupleiter_next hit.typeIs entry_tupleiter_next ?_ (args_tupleiter_next _))))
  show wpAny _ _ (field (.ref it) 0 >>= _) _ _ s
  refine wpAny_bind (wpAny_field eI dI (x := .ref l) rfl ?_)
  show wpAny _ _ (if (Value.ref l == Value.none) = true then _ else _) _ _ s
  rw [if_neg (show ¬ ((Value.ref l == Value.none) = true) from fun z => Bool.noConfusion z)]
  show wpAny _ _ (field (.ref it) 1 >>= _) _ _ s
  refine wpAny_bind (wpAny_field eI dI (x := .int i 0) rfl ?_)
  show wpAny _ _ (seqItems? (.ref l) >>= _) _ _ s
  refine wpAny_bind (wpAny_seqItems eL dL ?_)
  simp only [Int.toNat_natCast, hx]
  refine wpAny_bind (wpAny_rule (wpAny_bind (wpAny_setField eI dI (by simp) ?_)))
  show wpAny _ _ (newExc (.type "StopIteration") [] >>= _) _ _ _
  refine wpAny_bind ?_
  simp only [newExc, newTuple]
  refine wpAny_bind (wpAny_newObj_type ?_ (by size_fits))
  refine wpAny_bind (m := firstArgMember _ _) (wpAny_of_eq (a := Value.none) (by first | rfl | (simp only [firstArgMember]; rfl)) ?_)
  refine wpAny_newObj_type ?_ (by size_fits)
  have k1 : ∀ o, s.heap.get? x1 = some o → (s.heap.update it (Obj.mapFields (·.setIfInBounds 0 Value.none))).get? x1 = some o := fun o e => by rw [Heap.get?_update_other _ _ (Ne.symm off)]; exact e
  refine raiseNew_hot (HotAt.keep hot fun o e => Heap.get?_push_of_some _ (Heap.get?_push_of_some _ (k1 o e))) ?_ (Heap.get?_push_size _ rfl) rfl (by first | (simp; done) | (simp; omega) | (simp only [Array.size_append]; simp; omega)) ?_
  · obtain ⟨_, oX, _, eX, _⟩ := hot
    exact Nat.ne_of_lt (Heap.lt_size (Heap.get?_push_of_some _ (k1 oX eX)))
  refine wpAny_bind (wpAny_isInstance (T := "StopIteration") (b := true) ⟨_, Heap.get?_update_self _ (Heap.get?_push_size _ rfl) rfl, rfl⟩ isSubtype_stop ?_)
  refine wpAny_pure (hQ _ fun b o hb e => ?_)
  have e1 : (s.heap.update it (Obj.mapFields (·.setIfInBounds 0 Value.none))).get? b = some o := by rw [Heap.get?_update_other _ _ (Ne.symm hb)]; exact e
  have e2 := Heap.get?_push_of_some (h := s.heap.update it (Obj.mapFields (·.setIfInBounds 0 Value.none))) { cls := .type "tuple", data := .seq ([] : List Value).toArray } e1
  rw [Heap.get?_update_other _ _ (Ne.symm (Nat.ne_of_lt (Heap.lt_size e2)))]
  exact Heap.get?_push_of_some _ e2
theorem tupItems {t x1 : Addr} {items : Array Value} {Q : List Value → Shared → Prop} (hot : HotAt A x1 s.heap) (ht : IsTup s.heap t items) (hQ : ∀ h', Old s.heap.objs.size s.heap h' → Q items.toList { s with heap := h' }) :
    wpAny (model prog w) A (unpackItems (.ref t) items.size none) Q E s := by
  have lt : t ≠ s.heap.objs.size := by
    obtain ⟨o, e, _⟩ := ht
    exact Nat.ne_of_lt (Heap.lt_size e)
  have ltX : x1 ≠ s.heap.objs.size := by
    obtain ⟨_, o, _, e, _⟩ := hot
    exact Nat.ne_of_lt (Heap.lt_size e)
  unfold unpackItems
  refine wpAny_bind ?_
  unfold notIterableAtAll
  refine wpAny_bind (wpAny_specialOf ht.typeIs slot_tuple_iter.lookup ?_)
  refine wpAny_pure ?_
  simp only [Bool.false_eq_true, if_false]
  refine wpAny_bind (wpAny_holding (iter_tuple ht ?_))
  refine wpAny_bind (wpAny_holding (draw_tuple lt items.size 0 _ _ ⟨_, Heap.get?_push_size _ rfl, rfl, rfl⟩ (ht.push _) (by omega) fun h1 it1 sb => ?_))
  rw [show List.take items.size (List.drop 0 items.toList) = items.toList by rw [List.drop_zero]; exact List.take_of_length_le (by simp), if_neg (by simp)]
  have k1 : Old s.heap.objs.size s.heap h1 := fun b o hb e => sb.extBut b o hb (Heap.get?_push_of_some _ e)
  refine wpAny_bind (wpAny_holding (tupEnd (HotAt.keep hot fun o e => k1 _ _ ltX e) it1 ((ht.push _).extBut sb.extBut lt) (by simp) fun h2 k2 => ?_))
  simp only [Option.isSome_none, Bool.false_eq_true, if_false]
  exact wpAny_pure (hQ h2 fun b o hb e => k2 b o hb (k1 b o hb e))
theorem assignTup {env : Env} {elts : List Expr} {k : Nat} {pos : Pos} {t x1 : Addr} {items : Array Value} {Q : Unit → Shared → Prop} (hot : HotAt A x1 s.heap) (ht : IsTup s.heap t items)
    (hn : (assignEach elts env).length = items.size) (hs : (assignEach elts env).findIdx? (·.1) = none)
    (hQ : ∀ h', Old s.heap.objs.size s.heap h' → wpAny (model prog w) A (assignInOrder ((assignEach elts env).map (·.2)) items.toList) Q E { s with heap := h' }) :
    wpAny (model prog w) A (assign (.Tuple elts k pos) env (.ref t)) Q E s := by
  rw [assign_Tuple]
  refine wpAny_bind (wpAny_standAt ?_)
  unfold unpack
  rw [hn, hs]
  exact wpAny_bind (wpAny_holding (tupItems hot ht hQ))
end
end PLH
/-! PLH2: a list comprehension over a list, a tuple taken apart, while an exception is handled that is tracked. -/
namespace PLH
open PySem PySem.Spec PyProof.Rows L2 HotX
/-- the handled exception is tracked -/
def Hot (A : Around) (H : Hp) : Prop := ∃ (x1 dd : Addr) (cls : Value), A.handled = some (.ref x1) ∧ H x1 = some (PL.ExV cls dd x1)
/-- the walk J whose end is met while the exception is tracked -/
def hotIt (A : Around) (J : It) : It := ⟨J.go, J.yld, fun i H => J.stop i H ∧ Hot A H⟩
def iHot (A : Around) (K : PySem.W.Frag) (tl : TE) : TI := fun σ H R => tl σ H fun x H1 => ∃ a, x = .ref a ∧ (∃ xs, SqL K H1 a xs) ∧ R (hotIt A (Itl K a)) H1
theorem Hot.of_same {A : Around} {F H : Hp} (h : Hot A F) (s : L2.Same F H) : Hot A H := by
  obtain ⟨x1, dd, cls, e1, e2⟩ := h
  exact ⟨x1, dd, cls, e1, s _ _ e2⟩
theorem Hot.walk {A : Around} {J : It} {n : Nat} {G : Hp → Prop} {Y : Nat → Hp → V → Hp → Prop} (w : Walk J n G Y) : Walk (hotIt A J) n (fun H => G H ∧ Hot A H) Y :=
  ⟨fun i H h g => w.goes i H h g.1, fun H g => ⟨w.stops H g.1, g.2⟩, fun i H x H' h g y => w.yields i H x H' h g.1 y⟩
section
variable {X : Cx} {tg : Expr} {pins : List (Addr × Obj)} {σ : L2.St} {H : Hp} {s : Shared}
theorem Hot.at_ (h : Hot X.A H) (I : Inv X pins σ H s) : ∃ x1, HotAt X.A x1 s.heap := by
  obtain ⟨x1, dd, cls, e1, e2⟩ := h
  obtain ⟨⟨oe, vs, g1, hz, hd⟩, _, _⟩ := I.hok x1 _ e2
  exact ⟨x1, e1, oe, vs, g1, hd, hz.2.2 vs hd⟩
/-- one turn of the walk over a list -/
theorem turnItem {a it : Addr} {i : Nat} {E : Value → Shared → Prop} (I : Inv X pins σ H s) (f : FpOk X pins H it) (st : s.heap.IsListIter it a i) (g : (Itl X.K a).go i H) :
    wpAny (model X.prog X.w) X.A (pyNext (.ref it)) (fun r s1 => ∃ u, r = some u ∧ wpAny (model X.prog X.w) X.A (letOwnedTupleGo tg (.ref it) u) (fun _ s2 => ∃ x H2, Inv X pins σ H2 s2 ∧ RelV x u ∧ (Itl X.K a).yld i H x H2 ∧ s2.heap.IsListIter it a (i + 1) ∧ H2 it = none) E s1) E s := by
  obtain ⟨xs, x, sq, ex⟩ := g
  obtain ⟨its, rv, pl, hz⟩ := I.list sq
  obtain ⟨u, eu, ru⟩ := rv.get ex
  obtain ⟨p0, p1, p2, p3, p4, p5⟩ := f
  refine wpAny_pyNext_list_item st pl.isList (x := u) (by simpa using eu) fun h2 st2 sb => ⟨u, rfl, ?_⟩
  obtain ⟨o, e, c, d⟩ := id st2
  have J : Inv X pins σ H { s with heap := h2 } := I.turned (t' := s.toks) (fun b o hb q => (sb.2 b hb).trans q) p0 p1 p3 p4 p5
  refine go_of (s := { s with heap := h2 }) e c d (by decide) ⟨x, H, J, ru, ⟨rfl, fun ys hy => ?_⟩, st2, p0⟩
  rw [I.list_inj hy sq]
  exact ex
theorem turnDone {a it : Addr} {i : Nat} {E : Value → Shared → Prop} (I : Inv X pins σ H s) (f : FpOk X pins H it) (st : s.heap.IsListIter it a i) (g : (Itl X.K a).stop i H) (hot : Hot X.A H) :
    wpAny (model X.prog X.w) X.A (pyNext (.ref it)) (fun r s1 => r = none ∧ Inv X pins σ H s1) E s := by
  obtain ⟨xs, sq, le⟩ := g
  obtain ⟨its, rv, pl, hz⟩ := I.list sq
  obtain ⟨x1, h1⟩ := hot.at_ I
  obtain ⟨p0, p1, p2, p3, p4, p5⟩ := f
  have len := rv.length
  exact listEnd h1 st pl.isList (by simp; omega) fun h2 k => ⟨rfl, I.turned (t' := s.toks) (fun b o hb q => k b o hb q) p0 p1 p3 p4 p5⟩
end
theorem holdsF {α : Type} {t : Sem α} {Q R : α → Shared → Prop} {M : Model} {A : Around} {E : Value → Shared → Prop} {s : Shared} (h : wpAny M A t Q (fun _ _ => False) s) (k : ∀ a s, Q a s → R a s) : wpAny M A t R E s :=
  wpAny_mono h k fun _ _ z => z.elim
section
variable {X : Cx} {pins : List (Addr × Obj)} {s : Shared} {σ : L2.St} {H : Hp} {Q : VK} {elt tg iter : Expr} {ifs : List Expr} {scope : Scope} {own : List (Str × Nat)} {pos pos' : Pos} {tl : TE} {g : TG} {tt : TT} {te : TE} {use : Option (Value → Sem Unit)} {Qf : Value → Shared → Prop}
theorem lcHot (nd : X.N.Nodup) (I : Inv X pins σ H s) (hl : PE X iter tl) (ok : BlkOk X.N X.env.scope scope own)
    (hg : ∀ (s : Shared) (H : Hp) (L : Addr) (cl : List (Str × Addr)) (fp : List Addr), PG (X.blk s H scope (compEnvC scope cl L X.env) fp) tg g) (ht : ∀ (s : Shared) (H : Hp) (L : Addr) (cl : List (Str × Addr)) (fp : List Addr), PTs (X.blk s H scope (compEnvC scope cl L X.env) fp) ifs tt)
    (he : ∀ (s : Shared) (H : Hp) (L : Addr) (cl : List (Str × Addr)) (fp : List Addr), PE (X.blk s H scope (compEnvC scope cl L X.env) fp) elt te) (hs : ∀ x, foldedSetIterable iter X.env x = pure x)
    (h : tLc (iHot X.A X.K tl) g tt te (own.map (·.2)) σ H Q)
    (back : ∀ D L t m H2, Inv X pins σ H2 t → Q (.ref D) H2 → t.heap.Ns L m → FpOk X pins H2 L → compPost (model X.prog X.w) X.A X.xe use Qf (.ref D) L (.ok .next) t) :
    wpAny (model X.prog X.w) X.A (comprehension (.ListComp elt [⟨tg, iter, ifs, 0⟩] scope pos) scope X.env pos' (newList []) false (eval iter X.env) use) Qf X.xe s := by
  have frees : ∀ y ∈ scope.names, y.2 = .free → ∃ c, X.env.cells.lookup y.1 = some c := fun y hy e => I.ok.has _ ((ok.free y hy e).elim .inl .inr)
  refine wpAny_comprehension_free (use := use) rfl hs (closure_ok frees) ok.kind (fun y hy e => by rw [ok.uniq y hy, e]) (thn (hl.run pins s σ H _ I h) fun xv t1 hx => ?_)
  obtain ⟨x, G1, I1, rx, a, rfl, ⟨xs, sqa⟩, q⟩ := hx
  obtain rfl : xv = Value.ref a := rx
  obtain ⟨its, rv, pl, hz⟩ := I1.list sqa
  refine wpAny_pyIter_list pl.isList ?_
  generalize hit : t1.heap.objs.size = it
  generalize ht2 : ({ t1 with heap := t1.heap.push { cls := .type "list_iterator", data := .fields #[.ref a, .int 0 0] } } : Shared) = t2
  have h2 : t2.heap = t1.heap.push { cls := .type "list_iterator", data := .fields #[.ref a, .int 0 0] } := by rw [← ht2]
  have I2 : Inv X pins σ G1 t2 := by
    rw [← ht2]
    exact I1.kept (t' := t1.toks) fun b o e => Heap.get?_push_of_some _ e
  have st2 : t2.heap.IsListIter it a 0 := by
    rw [h2, ← hit]
    exact ⟨_, Heap.get?_push_size _ rfl, rfl, rfl⟩
  have fIt : FpOk X pins G1 it := by
    rw [← hit]
    exact I1.fpOk (Nat.le_refl _) (I1.hok.fresh (Nat.le_refl _))
  have lIt : it < t2.heap.objs.size := by
    obtain ⟨o, e, _⟩ := st2
    exact Heap.lt_size e
  refine wpAny_newObj_type (newEnv_comp ?_) (by show 0 ≤ sizeLine; decide)
  generalize hD : t2.heap.objs.size = D
  have nD : G1 D = none := I2.hok.fresh (Nat.le_of_eq hD)
  obtain ⟨W, ⟨m0, w0⟩, turn⟩ := q D nD
  generalize ht3 : ({ t2 with heap := t2.heap.push { cls := .type "list", data := .seq ([] : List Value).toArray } } : Shared) = t3
  have h3 : t3.heap = t2.heap.push { cls := .type "list", data := .seq ([] : List Value).toArray } := by rw [← ht3]
  have I3 : Inv X pins σ (L2.upd G1 D (.lst [])) t3 := by
    rw [← ht3]
    refine I2.laid (t' := t2.toks) (fun b o e => Heap.get?_push_of_some _ e) (Nat.le_of_eq hD) ⟨Nat.zero_le _, [], 0, .nil, ?_⟩
    rw [← hD]
    exact Heap.get?_push_size _ rfl
  have neD : it ≠ D := by
    rw [← hD]
    exact Nat.ne_of_lt lIt
  have f3 : ∀ b ∈ [it], FpOk X pins (L2.upd G1 D (.lst [])) b ∧ b < t3.heap.objs.size := by
    intro b hb
    rw [List.mem_singleton] at hb
    subst hb
    refine ⟨⟨?_, fIt.2⟩, by rw [h3, Heap.size_push]; exact Nat.lt_succ_of_lt lIt⟩
    rw [L2.upd_ne neD]
    exact fIt.1
  have st3 : t3.heap.IsListIter it a 0 := st2.at fun o e => by
    rw [h3]
    exact Heap.get?_push_of_some _ e
  have I4 := block_start I3 ok nd f3
  have pg := hg t3 (L2.upd G1 D (.lst [])) t3.heap.objs.size (cellsFrom (t3.heap.objs.size + 1) scope.names (cloFrom X.env.cells scope.names [])) [it]
  have pt := ht t3 (L2.upd G1 D (.lst [])) t3.heap.objs.size (cellsFrom (t3.heap.objs.size + 1) scope.names (cloFrom X.env.cells scope.names [])) [it]
  have pe := he t3 (L2.upd G1 D (.lst [])) t3.heap.objs.size (cellsFrom (t3.heap.objs.size + 1) scope.names (cloFrom X.env.cells scope.names [])) [it]
  show codeAny _ _ (.compStart (.ListComp elt [⟨tg, iter, ifs, 0⟩] scope pos) 0 (.ref it) (.ref D) (compEnvC scope (cellsFrom (t3.heap.objs.size + 1) scope.names (cloFrom X.env.cells scope.names [])) t3.heap.objs.size X.env)) (compPost (model X.prog X.w) X.A X.xe use Qf (.ref D) t3.heap.objs.size) { t3 with heap := pushCells (t3.heap.push { cls := .type "dict", data := .dict #[] }) scope.names }
  have n3 : (L2.upd G1 D (.lst [])) it = none := (f3 it List.mem_cons_self).1.1
  generalize hce : compEnvC scope (cellsFrom (t3.heap.objs.size + 1) scope.names (cloFrom X.env.cells scope.names [])) t3.heap.objs.size X.env = ce at I4 pg pt pe ⊢
  have cL : ce.locals = t3.heap.objs.size := by rw [← hce]; rfl
  generalize hG3 : L2.upd G1 D (.lst []) = G3 at I3 I4 pg pt pe w0 n3 f3
  generalize ht4 : ({ t3 with heap := pushCells (t3.heap.push { cls := .type "dict", data := .dict #[] }) scope.names } : Shared) = t4 at I4 ⊢
  have st4 : t4.heap.IsListIter it a 0 := st3.at fun o e => by
    rw [← ht4]
    exact pushCells_keeps _ _ _ _ (Heap.get?_push_of_some _ e)
  have stat : ∀ {σ' : L2.St} {H' : Hp} {s' : Shared}, Inv (X.blk t3 G3 scope ce [it]) [] σ' H' s' → H' it = none → FpOk (X.blk t3 G3 scope ce [it]) [] H' it := fun {σ' H' s'} I' hn =>
    ⟨hn, (I'.ok.exf it List.mem_cons_self).1, I'.ok.exfs it List.mem_cons_self, .inl List.mem_cons_self, fun x c e => (I'.ok.exf it List.mem_cons_self).2 x c e, fun p hp => by simp at hp⟩
  have loop : codeAny (model X.prog X.w) X.A (.compLoop (.ListComp elt [⟨tg, iter, ifs, 0⟩] scope pos) 0 (.ref it) (.ref D) ce) (compPost (model X.prog X.w) X.A X.xe use Qf (.ref D) t3.heap.objs.size) t4 := by
    refine compLoop_any (fun n t => ∃ i G, Inv (X.blk t3 G3 scope ce [it]) [] (wipe σ (own.map (·.2))) G t ∧ t.heap.IsListIter it a i ∧ G it = none ∧ W i n G) ?_ m0 ⟨0, G3, I4, st4, n3, w0⟩
    rintro n t5 ⟨i, G5, I5, st5, n5, w5⟩
    rcases turn i n G5 w5 with ⟨⟨stop, hot⟩, qq⟩ | ⟨go, Nx, hNx, step⟩
    · refine holdsF (turnDone (X := X.blk t3 G3 scope ce [it]) (E := fun _ _ => False) I5 (stat I5 n5) st5 stop hot) fun r t6 ⟨hr, I6⟩ => ?_
      subst hr
      have I7 : Inv X pins σ G5 t6 := I3.call' (ch := [it]) I6.os I6.base I6.hok I6.bare fun b hb => ⟨(f3 b hb).1.2.2.2.1, (f3 b hb).1.2.1, (f3 b hb).1.2.2.2.2.1, (f3 b hb).1.2.2.2.2.2⟩
      have nL : G5 t3.heap.objs.size = none := by
        rw [← cL]
        exact I6.free
      obtain ⟨m, hn, _⟩ := I6.loc
      exact back D t3.heap.objs.size t6 m G5 I7 qq (cL ▸ hn) (I3.fpOk (Nat.le_refl _) nL)
    · refine holdsF (turnItem (X := X.blk t3 G3 scope ce [it]) (tg := tg) (E := fun _ _ => False) I5 (stat I5 n5) st5 go) fun r t6 ⟨u, hr, h6⟩ => ?_
      subst hr
      refine holdsF h6 fun _ t7 ⟨x, G7, I7, r7, y7, st7, n7⟩ => ?_
      obtain ⟨oI, eI, cI, dI⟩ := id st7
      have I8 := I7.pinned (fp := [it]) (fun b hb => by rw [List.mem_singleton] at hb; subst hb; exact stat I7 n7) (fun b hb => by rw [List.mem_singleton] at hb; subst hb; exact ⟨oI, eI, fun v z => by rw [dI] at z; cases z⟩)
      refine holdsF (pg.run _ t7 _ G7 x u _ I8 r7 (step x G7 y7)) fun _ t8 ⟨σ8, G8, I9, hw8, q8⟩ => ?_
      refine holdsF (pt.run _ t8 σ8 G8 _ I9 q8) fun b t9 ⟨G9, I10, q9⟩ => ?_
      have fin : ∀ {t : Shared} {G : Hp}, Inv (X.blk t3 G3 scope ce [it]) ([] ++ pinsAt [it] t7.heap) σ8 G t → Nx G → ∃ m, m < n ∧ ∃ i G, Inv (X.blk t3 G3 scope ce [it]) [] (wipe σ (own.map (·.2))) G t ∧ t.heap.IsListIter it a i ∧ G it = none ∧ W i m G := by
        intro t G J nx
        obtain ⟨m', hm, w'⟩ := hNx G nx
        obtain ⟨pin1, pin2, _⟩ := J.pin (it, oI) (List.mem_append_right _ (List.mem_append_right _ (mem_pinsAt List.mem_cons_self eI)))
        have len : (wipe σ (own.map (·.2))).length = σ8.length := by rw [← hw8, wipe_length]
        refine ⟨m', hm, i + 1, G, (J.unpinned (pins := [])).weak len (fun j v e => ?_), st7.at fun o e => ?_, pin2, w'⟩
        · rw [← hw8] at e
          exact (wipe_some e).1
        · rw [eI] at e
          cases e
          exact pin1
      cases b with
      | false =>
        simp only [Bool.false_eq_true, if_false] at q9 ⊢
        exact fin I10 q9
      | true =>
        simp only [if_true] at q9 ⊢
        refine holdsF (pe.run _ t9 σ8 G9 _ I10 q9) fun z t10 ⟨yv, G10, I11, r11, acc, eD, hz10, nx⟩ => ?_
        exact app_ok (X := X.blk t3 G3 scope ce [it]) I11 eD hz10 r11 fun t11 I12 => fin I12 nx
  exact codeAny_compStart_list loop (wpAny_pyIter_listiter st4 loop)
end
end PLH
/-! PLH3: the rules of PL for a def that is called with the exception that is handled. -/
namespace PLH
open PySem PySem.Spec PyProof.Rows L2 HotX PL
/-- the handled exception is a plain thing -/
def HotF (X : Cx) (C : Fx) : Prop := Hot X.A C.F0
section
variable {X : Cx} {C : Fx} {W : WX} {pos : Pos}
theorem HotF.now {F H : Hp} {A : Nat → List Addr} {σ : L2.St} {s : Stt} (h : HotF X C) (o : OkF C F A H σ s) : Hot X.A H := Hot.of_same h (o.ext.1.trans o.sub)
/-- (x, ..) = v -/
def gTupH (A : Around) (K : PySem.W.Frag) (n : Nat) (t : TGs) : TG := fun v σ H Q => Hot A H ∧ ∃ a xs, v = .ref a ∧ SqT K H a xs ∧ xs.length = n ∧ t xs σ H Q
theorem pg_tupH {es : List Expr} {k n : Nat} {t : TGs} (h : PGs X es t) (hn : (assignEach es X.env).length = n) (hs : (assignEach es X.env).findIdx? (·.1) = none) : PG X (.Tuple es k pos) (gTupH X.A X.K n t) := by
  refine ⟨fun pins s σ H v u Q I r hw => ?_⟩
  obtain ⟨hot, a, xs, rfl, sq, len, hw⟩ := hw
  obtain rfl : u = Value.ref a := r
  obtain ⟨its, rv, tp, hz⟩ := I.tuple sq
  obtain ⟨x1, h1⟩ := hot.at_ I
  refine assignTup h1 tp (by simp [hn, ← len, rv.length]) hs fun h2 k2 => ?_
  have J : Inv X pins σ H { s with heap := h2 } := I.kept (t' := s.toks) fun b o e => k2 b o (Nat.ne_of_lt (Heap.lt_size e)) e
  exact h.run pins _ σ H xs _ Q J (by simpa using rv) hw
theorem dg_tupH {vs : Nat → Bool} {es : List Expr} {k n : Nat} {b : List PV → Stt → Option Stt} (hK : X.K = C.K) (hc : HotF X C) (h : DGs X C vs es b) (hn : (assignEach es X.env).length = n := by rfl) (hs : (assignEach es X.env).findIdx? (·.1) = none := by rfl) : DG X C vs (.Tuple es k pos) (aTup n b) := by
  obtain ⟨t, p, q⟩ := h.pr
  refine ⟨_, pg_tupH (n := n) p hn hs, fun F A H σ s x v s' Q o r e kk => ?_⟩
  cases r with
  | @tup a xs l hT hR =>
    have e : (if l.length = n then b l s else none) = some s' := e
    split at e
    · rename_i hl
      exact ⟨hc.now o, a, xs, rfl, by rw [hK]; exact sqT_mono o.sub hT, by rw [hR.length]; exact hl, q F A H σ s xs l s' Q o hR e kk⟩
    · cases e
  | _ => cases e
/-- name = [..] on one line, the name a local -/
theorem ps_lcHot {i : Nat} {y : Str} {py spos : Pos} {elt tg iter : Expr} {ifs : List Expr} {scope : Scope} {own : List (Str × Nat)} {tl : TE} {g : TG} {tt : TT} {te : TE} (nd : X.N.Nodup) (hy : X.N[i]? = some y) (hyl : X.env.scope.names.lookup y = some .local)
    (hsw : swapsWith (.ListComp elt [⟨tg, iter, ifs, 0⟩] scope pos) (some (.Name y py)) spos.line X.env = pure true) (hl : PE X iter tl) (ok : BlkOk X.N X.env.scope scope own)
    (hg : ∀ (s : Shared) (H : Hp) (L : Addr) (cl : List (Str × Addr)) (fp : List Addr), PG (X.blk s H scope (compEnvC scope cl L X.env) fp) tg g) (ht : ∀ (s : Shared) (H : Hp) (L : Addr) (cl : List (Str × Addr)) (fp : List Addr), PTs (X.blk s H scope (compEnvC scope cl L X.env) fp) ifs tt)
    (he : ∀ (s : Shared) (H : Hp) (L : Addr) (cl : List (Str × Addr)) (fp : List Addr), PE (X.blk s H scope (compEnvC scope cl L X.env) fp) elt te) (hs : ∀ x, foldedSetIterable iter X.env x = pure x) :
    PS X (.Assign [.Name y py] (.ListComp elt [⟨tg, iter, ifs, 0⟩] scope pos) spos) (tAsg (tLc (iHot X.A X.K tl) g tt te (own.map (·.2))) (gName i)) := by
  refine ⟨fun pins s σ H D I h => ?_⟩
  rw [exec_Assign_Name_used _ _ _ _ hsw]
  refine wpAny_bind (wpAny_standAt (wpAny_bind ?_))
  show wpAny _ X.A (do let _ ← comprehension (.ListComp elt [⟨tg, iter, ifs, 0⟩] scope pos) scope X.env (firstIterPos [⟨tg, iter, ifs, 0⟩] pos) (newList []) false (eval iter X.env) (some (assign (.Name y py) X.env))) _ _ s
  have h2 : tLc (iHot X.A X.K tl) g tt te (own.map (·.2)) σ H (fun x H1 => gName i x σ H1 D.nx) := h
  refine wpAny_bind (thn (lcHot (Qf := fun _ t => SP X pins D .next t) nd I hl ok hg ht he hs h2 fun L B t m G J q hn f => ?_) fun _ _ z => wpAny_pure (wpAny_pure z))
  show wpAny _ _ (assign (.Name y py) X.env (.ref L)) _ _ _
  obtain ⟨p0, p1, p2, p3, p4, p5⟩ := f
  refine wpAny_assign_Name (store_ok2 (v := V.ref L) J nd hy (.inl hyl) rfl (fun t2 J2 ⟨a, sb, ha⟩ => ?_) (.inr hyl))
  have off : B ≠ a := ha.elim (fun z => by rw [z]; exact p1) fun z e => p4 y a z e.symm
  exact ⟨m, hn.sameBut sb off, fun h3 sb3 => ⟨_, G, J2.turned (t' := t2.toks) (fun b o hb e => (sb3.2 b hb).trans e) p0 p1 p3 p4 p5, q⟩⟩
theorem ds_lcH {i : Nat} {y : Str} {py spos : Pos} {elt tg iter : Expr} {ifs : List Expr} {scope : Scope} {own : List (Str × Nat)} {fi : Stt → Res PV} {a : PV → Stt → Option Stt} {ft : Stt → Res Bool} {fe : Stt → Res PV} (hK : X.K = C.K) (hc : HotF X C) (nd : X.N.Nodup) (hy : X.N[i]? = some y) (hyl : X.env.scope.names.lookup y = some .local)
    (hsw : swapsWith (.ListComp elt [⟨tg, iter, ifs, 0⟩] scope pos) (some (.Name y py)) spos.line X.env = pure true) (ok : BlkOk X.N X.env.scope scope own) (hi : DV X C W iter fi)
    (hg : ∀ (s : Shared) (H : Hp) (L : Addr) (cl : List (Str × Addr)) (fp : List Addr), DG (X.blk s H scope (compEnvC scope cl L X.env) fp) C (fun i => decide (i ∈ own.map (·.2))) tg a)
    (ht : ∀ (s : Shared) (H : Hp) (L : Addr) (cl : List (Str × Addr)) (fp : List Addr), DTs (X.blk s H scope (compEnvC scope cl L X.env) fp) C W0 ifs ft)
    (he : ∀ (s : Shared) (H : Hp) (L : Addr) (cl : List (Str × Addr)) (fp : List Addr), DV (X.blk s H scope (compEnvC scope cl L X.env) fp) C W0 elt fe) (hs : ∀ x, foldedSetIterable iter X.env x = pure x := by intro _; rfl) :
    DS X C W (.Assign [.Name y py] (.ListComp elt [⟨tg, iter, ifs, 0⟩] scope pos) spos) (gAsg (frz (oComp (own.map (·.2)) (iSeq fi) a ft fe)) (aName i)) := by
  obtain ⟨tl, pl, ql⟩ := hi.pr
  refine ⟨_, ps_lcHot nd hy hyl hsw pl ok (fun s H L cl fp => (hg s H L cl fp).c) (fun s H L cl fp => (ht s H L cl fp).c) (fun s H L cl fp => (he s H L cl fp).c) hs, fun F A H σ s D o p => ?_⟩
  have qi : ∀ F A H σ s (Q : It → Hp → Prop), OkF C F A H σ s → Post C W (RI C) F A H σ (iSeq fi s) Q → iHot X.A X.K tl σ H Q := fun F A H σ s Q o p => by
    refine ql F A H σ s _ o (p.seq fun v1 s1 v F1 A1 H1 _ o1 st1 r1 p1 => ?_)
    cases r1 with
    | @lst b xs l h1 h2 =>
      have sq : ∀ H2, L2.Same F1 H2 → SqL X.K H2 b xs := fun H2 sm => .inl (.inl (sm _ _ h1))
      have wk : Walk (Itl X.K b) l.length (fun H => SqL X.K H b xs) (YAt xs) := by rw [← h2.length]; exact walk_list
      exact ⟨b, rfl, ⟨xs, sq H1 o1.sub⟩, Post.now o1 p1 ⟨_, _, Hot.walk wk, fun H2 sm => ⟨sq H2 sm, Hot.of_same hc (o1.ext.1.trans sm)⟩, yat_ok h2⟩⟩
    | _ => exact p1.elim
  have den := lc_den (C := C) (W := W) (vs := own.map (·.2)) (tg := cTG C (fun i => decide (i ∈ own.map (·.2))) a) (tt := cTT C W0 ft) (te := cTE C W0 fe) qi (fun F A H σ s x p s' Q o r e k => ⟨F, A, s, p, s', o, r, e, k⟩) (fun F A H σ s Q o p => ⟨F, A, s, o, p⟩) (fun F A H σ s Q o p => ⟨F, A, s, o, p⟩)
  refine den F A H σ s _ o ?_
  unfold gAsg frz at p
  cases hr : oComp (own.map (·.2)) (iSeq fi) a ft fe s with
  | ok m s1 =>
    rw [hr] at p
    cases m with
    | lst l =>
      intro q F' A' H' o1 st1 fr
      obtain ⟨F2, o2, st2, r2⟩ := o1.freeze st1 fr
      obtain ⟨o3, st3⟩ := o2.setV (i := i) r2
      exact p _ _ _ _ o3 (st2.trans st3)
    | _ => exact p.elim
  | ex c v s1 => rw [hr] at p; exact fun d F' A' H' => p d σ F' A' H'
  | stuck => rw [hr] at p; exact p
end
end PLH
/-! PLH4: defs called with the exception that is handled; try: body / except StrideError as n: return F(n). -/
namespace PLH
open PySem PySem.Spec PyProof.Rows L2 HotX PL
/-- what a def of one parameter promises where it is called with the exception that is handled -/
structure FnHot (P : Program) (w : World) (K : PySem.W.Frag) (mg : Str → Option Value) (base : Heap) (cl : Str → Addr) (k : Nat) (f : Addr) (fd : FuncData) (p : Str) (m : List SV → List MO → FRes) : Prop where
  go : ∀ (A : Around) (outer : List Env) (s : Shared) (H : Hp) (args : Args) (C : Fx) (F : Hp) (x1 dd : Addr) (c : Str) (v : PV) (Q : VK) (E : XK), L2H.RoomH k A → A.guards = some [] → A.handled = some (.ref x1) → Env0 P w K mg base A outer s H → BindsTo s fd args [(p, .ref x1)] →
    C.K = K → C.cl = cl → OkF C F noA H [] ⟨[], []⟩ → C.F0 x1 = some (ExV (.ref (cl c)) dd x1) → Rp C F (.ref x1) (.exi c v) → PostF C F H Q E (m [.val (.exi c v)] []) → codeAny (model P w) A (.call (.ref f) args) (CR (L2N.CX P w) outer P w H s Q E) s
/-- the context of such a def's body -/
abbrev hotCx (P : Program) (w : World) (K : PySem.W.Frag) (mg : Str → Option Value) (base : Heap) (N : List Str) (qual : Str) (scope : Scope) (f : Addr) (cd : Value) (A : Around) (outer : List Env) (s : Shared) (H : Hp) (E : XK) : Cx :=
  { cxOf (L2N.CX P w) P w K mg base N qual scope f cd A outer s H E with calm := false }
section
variable {P : Program} {w : World} {K : PySem.W.Frag} {mg : Str → Option Value} {base : Heap} {cl : Str → Addr}
theorem fnHot {x qual p : Str} {st : Stmt} {f : Addr} {fd : FuncData} {N : List Str} {k n : Nat} {g : Stt → Fl} (F : Fun K x qual st f fd) (S : FnScope N [p] (defScope st)) (hn : N.length = n)
    (hbody : ∀ (cdv : Value) (A : Around) (outer : List Env) (s : Shared) (H : Hp) (E : XK) (C : Fx), C.K = K → C.cl = cl → L2H.RoomH k (A.deeper (envOfC qual (defScope st) s.heap.objs.size f cdv)) →
      HotF (hotCx P w K mg base N qual (defScope st) f cdv A outer s H E) C → DSs (hotCx P w K mg base N qual (defScope st) f cdv A outer s H E) C (fun c d _ H => E c d H) (defBody st) g) : FnHot P w K mg base cl (k + 1) f fd p (mOf n g) := by
  subst hn
  obtain ⟨oc, od, kV, doc, pm, an, cdv, ct, osl, rfl, lk, cod⟩ := F.ex
  refine ⟨?_⟩
  intro A outer s H args C F1 x1 dd c v Q E room gu hot e0 bnd hK hcl o hF0 r post
  have rel : Vals [V.ref x1] [Value.ref x1] := .cons rfl .nil
  have inK : K.In s.heap := e0.mod.kin.keeps fun a u q => (e0.bs a u q).1
  have nolim : s.heap.NoLimit := e0.mod.nolimit.keeps fun a u q => (e0.bs a u q).1
  have kinds : ∀ y ∈ [(p, Value.ref x1)], (defScope st).names.lookup y.1 = some .local ∨
      ((defScope st).names.lookup y.1 = some .cell ∧ ((cellsFrom (s.heap.objs.size + 1) (defScope st).names []).lookup y.1).isSome = true) := by
    intro y hy
    rw [List.mem_singleton] at hy
    subst hy
    cases S.par p List.mem_cons_self with
    | inl z => exact .inl z
    | inr z => exact .inr ⟨z, PySem.W.cellsFrom_some _ _ _ (.inl z)⟩
  refine codeAny_call_function room.depth (inK _ _ lk) rfl S.co S.gen rfl (PySem.W.codeRec_of inK cod) (bnd _ _ _ _ ?_)
  refine wpAny_newFunctionEnv_cells S.kind kinds ?_
  intro env he s1 made
  subst he
  refine ⟨nolim.keeps made.toInCall.keep, codeAny_func ?_⟩
  obtain ⟨t, tr, tq⟩ := (hbody cdv A outer s H E C hK hcl (room.deeper _) ⟨x1, dd, _, hot, hF0⟩).pr
  have e1 : Env0 P w K mg base { A with handled := none } outer s H := ⟨e0.frames, e0.mod, e0.bs, e0.bsz, e0.funs, e0.frf, e0.hok, e0.bare⟩
  have J := inv_start (CX := L2N.CX P w) (E := E) (cd := cdv) (f := f) (qual := qual) S (show ({ A with handled := none } : Around).handled = none from rfl) e1 (vs := [V.ref x1]) rfl rel made
  have I0 : Inv (hotCx P w K mg base N qual (defScope st) f cdv A outer s H E) [] (L2.start N [V.ref x1]) H s1 :=
    ⟨⟨J.ok.mod, J.ok.kind, J.ok.glob, J.ok.blt, J.ok.above, J.ok.inj, J.ok.has, J.ok.cab, (fun z => Bool.noConfusion (show false = true from z)), Around.frames_deeper e0.frames, J.ok.stk, J.ok.exf, J.ok.bs, J.ok.bsz, J.ok.noex, J.ok.exfs, J.ok.funs, J.ok.frf⟩,
      J.os, J.bare, J.base, J.loc, J.cell, J.free, J.freeC, J.pin, J.hok, J.len⟩
  have ra : RpA C F1 [V.ref x1] [.val (.exi c v)] := .val r .nil
  refine wpAny_mono (tr.run [] s1 (L2.start N [V.ref x1]) H _ I0 (tq F1 noA H _ _ _ (okF_start (N := N) o ra) (postF_end (fun _ _ _ _ h => h) post))) ?_ fun e s' z => z
  intro fl s' end'
  cases fl with
  | brk => obtain ⟨_, _, _, z⟩ := end'; exact z.elim
  | cont => obtain ⟨_, _, _, z⟩ := end'; exact z.elim
  | next =>
    obtain ⟨σ', H', J, z⟩ := end'
    exact ⟨.non, H', J.os, J.bare, J.base, J.hok, rfl, z⟩
  | ret u =>
    obtain ⟨v, σ', H', J, rv, z⟩ := end'
    exact ⟨v, H', J.os, J.bare, J.base, J.hok, rv, z⟩
end
/-- the wish of 'except x as n: suite' that catches all that comes; the object is tracked from the suite on -/
def wTrk (K : PySem.W.Frag) (c : Value) (i : Nat) (ts : Addr → TS) (D : Ends) : WX := fun cls d σ H =>
  PySem.W.exmOne K cls c = some true ∧ ∃ dd, d = some dd ∧ ∀ a, H a = none →
    ts a ⟨fun σ' H' => D.nx (σ'.set i none) H', D.rt, fun σ' H' => D.bk (σ'.set i none) H', fun σ' H' => D.ct (σ'.set i none) H'⟩ (σ.set i (some (.ref a))) (L2.upd H a (PL.ExV cls dd a))
section
variable {X : Cx} {x n : Str} {c : Value} {i : Nat} {body suite : List Stmt} {b₀ : Stmt} {np pos pos' : Pos} {tb : WX → TS} {ts : Addr → TS} {pins : List (Addr × Obj)} {σ : L2.St} {H : Hp} {s : Shared}
/-- into the suite, the object tracked -/
theorem trk_in {a : Addr} {oe : Obj} {vs : Array Value} {cls : Value} {dd : Addr} (I : Inv X pins σ H s) (he : s.heap.get? a = some oe) (hz : L2N.Zn cls (some dd) oe) (hd : oe.data = .fields vs) (na : H a = none) (ap : Apart X pins a) :
    Inv (X.suite a (X.pn ++ pins)) [] σ (L2.upd H a (PL.ExV cls dd a)) s := by
  have J : Inv X pins σ (L2.upd H a (PL.ExV cls dd a)) s := by
    refine I.track na ⟨⟨oe, vs, he, hz, hd⟩, ⟨oe, he⟩, fun _ _ ⟨o, v, q, r⟩ k => ⟨o, v, k o q, r⟩⟩ ap.ent ap.loc (fun y c e z => ?_) ap.pin
    obtain ⟨v, o', e', hd'⟩ := I.cell y c e
    rw [z, he] at e'
    cases e'
    rw [hd] at hd'
    cases hd'
  exact ⟨J.ok.suite _ _, J.os, J.bare, J.base, J.loc, J.cell, J.free, J.freeC, fun p hp => J.pin p (by rw [List.append_nil] at hp; exact hp), J.hok, J.len⟩
theorem trk_out {a : Addr} (I : Inv (X.suite a (X.pn ++ pins)) [] σ H s) (ok : X.Ok) : Inv X pins σ H s :=
  ⟨ok, I.os, I.bare, I.base, I.loc, I.cell, I.free, I.freeC, fun p hp => I.pin p (List.mem_append_left _ hp), I.hok, I.len⟩
theorem ps_try_trk (hex : X.ex = []) (hs : X.stack = X.env :: X.outer) (hf : X.env.frame = some X.env.locals) (hN : X.N.Nodup) (hi : X.N[i]? = some n) (hln : X.env.kindOf n = some .local) (hc : Names X x c)
    (hb : ∀ (W : WX) (pn : List (Addr × Obj)) (xe : Value → Shared → Prop), L2N.Takes (X.tr pn xe) W → PassesOwn (model X.prog X.w) X.A X.env xe → PSs (X.tr pn xe) body (tb W))
    (hsu : ∀ (a : Addr) (pn : List (Addr × Obj)), PSs (X.suite a pn) (b₀ :: suite) (ts a)) :
    PS X (.Try body [.ExceptHandler (some (.Name x np)) (some n) (b₀ :: suite) pos'] [] [] pos) (fun D σ H => tb (wTrk X.K c i ts D) D σ H) := by
  refine ⟨fun pins s σ H D I h => wpAny_Try_except ?_⟩
  have ok := I.ok
  have run := (hb (wTrk X.K c i ts D) (X.pn ++ pins) (fun e s₁ => wpAny (model X.prog X.w) X.A (noteFrame e X.env) (fun _ s₂ => wpAny (model X.prog X.w) X.A (setFlight e none)
    (fun _ s₃ => wpAny (model X.prog X.w) X.A (handleBy e X.env [.ExceptHandler (some (.Name x np)) (some n) (b₀ :: suite) pos']) (SP X pins D) X.xe s₃) X.xe s₂) X.xe s₁) (fun u s' air => ?_) PassesOwn.looking).run [] s σ H D (I.toTry _) h
  · refine wpAny_mono run (fun f s1 q => ?_) (fun _ _ q => q)
    cases f with
    | next =>
      obtain ⟨σ1, H1, J1, q1⟩ := q
      exact wpAny_execs_nil ⟨σ1, H1, J1.ofTry ok, q1⟩
    | ret u =>
      obtain ⟨v, σ1, H1, J1, r1, q1⟩ := q
      exact ⟨v, σ1, H1, J1.ofTry ok, r1, q1⟩
    | brk =>
      obtain ⟨σ1, H1, J1, q1⟩ := q
      exact ⟨σ1, H1, J1.ofTry ok, q1⟩
    | cont =>
      obtain ⟨σ1, H1, J1, q1⟩ := q
      exact ⟨σ1, H1, J1.ofTry ok, q1⟩
  · obtain ⟨a, B, sI, pins', σ1, H1, cls, d, rfl, J', nb, up, sky, na, os, ag, caught, dd, rfl, hyes⟩ := air
    have J : Inv X pins σ1 H1 sI := J'.ofTry ok
    have stk : X.A.frames = some (X.env :: X.outer) := by rw [ok.frames, hs]
    have sky1 : Sky B (X.env :: X.outer) a (L2N.Zn cls (some dd)) X.env.locals s'.heap := hs ▸ sky
    show wpAny _ X.A (noteFrame (.ref a) X.env) _ _ _
    refine L2N.Sky.land L2N.Zn.steady stk hf sky1 fun h3 fl3 up3 => ?_
    have ap : Apart X pins a := apart_of (s := ⟨h3, s'.gens, s'.drawn, s'.toks, s'.os⟩) (l := []) hex hs hf J nb fl3
    have at3 : Inv X pins σ1 H1 { s' with heap := h3 } := J.landed nb fl3.1 (up.trans up3) os ag
    obtain ⟨oe3, vs3, he3, hz3, hd3⟩ := fl3.there
    have S3 := at3.suite he3 hd3 na ap.loc ap.fs
    have catches := PySem.W.exm_one (M := model X.prog X.w) at3.kIn (fun A Q E s k q => wpAny_typeOf_ref (k _ _ he3) (by rw [hz3.1]; exact q) : PySem.W.Looks (model X.prog X.w) h3 (typeOf (.ref a)) cls) caught
    refine wpAny_handleBy_cons (codeAny_handlers_test ?_) (by intro q; cases q)
    have clause : ∀ {Q E : Value → Shared → Prop}, Q c { s' with heap := h3 } → wpAny (model X.prog X.w) (X.A.mark (some (.ref a))) (eval (.Name x np) X.env) Q E { s' with heap := h3 } := fun {Q E} q => by
      obtain ⟨hg, hdbg, hm | ⟨hm, hv, hnn⟩⟩ := hc
      · exact ld_glob (X := X.suite a ((a, oe3) :: (X.pn ++ pins))) S3 hg hm q hdbg
      · exact ld_blt (X := X.suite a ((a, oe3) :: (X.pn ++ pins))) S3 hg hm hv q hnn hdbg
    refine clause (catches.here (codeAny_handlers_suite_as ?_))
    refine HandSPX.lands_againZ fl3 fun h4 fl4 up4 => ?_
    have at4 : Inv X pins σ1 H1 { s' with heap := h4 } := J.landed nb fl4.1 ((up.trans up3).trans up4) os ag
    obtain ⟨oe4, vs4, he4, hz4, hd4⟩ := fl4.there
    refine store_ok (X := X.suite a (X.pn ++ pins)) (v := .ref a) (trk_in at4 he4 hz4 hd4 na ap) hN hi (.inl hln) rfl (fun s5 S5 => ?_) (.inr hln)
    refine wpAny_mono ((hsu a (X.pn ++ pins)).run [] s5 _ _ _ S5 (hyes a na)) (fun f s6 q => ?_) (fun _ _ z => z.elim)
    cases f with
    | next =>
      obtain ⟨σ6, H6, S6, q6⟩ := q
      exact gone_ok (trk_out S6 ok) hN hi hln fun s7 J7 => ⟨_, _, J7, q6⟩
    | brk =>
      obtain ⟨σ6, H6, S6, q6⟩ := q
      exact gone_ok (trk_out S6 ok) hN hi hln fun s7 J7 => ⟨_, _, J7, q6⟩
    | cont =>
      obtain ⟨σ6, H6, S6, q6⟩ := q
      exact gone_ok (trk_out S6 ok) hN hi hln fun s7 J7 => ⟨_, _, J7, q6⟩
    | ret u =>
      obtain ⟨v6, σ6, H6, S6, r6, q6⟩ := q
      exact gone_ok (trk_out S6 ok) hN hi hln fun s7 J7 => ⟨_, _, _, J7, r6, q6⟩
end
/-- what a def of one parameter makes of the exception at x1 -/
def spHot (K : PySem.W.Frag) (cl : Str → Addr) (m : List SV → List MO → FRes) (x1 : Addr) (H : Hp) (Q : VK) : Prop := ∃ (C : Fx) (F : Hp) (dd : Addr) (c : Str) (v : PV), C.K = K ∧ C.cl = cl ∧ OkF C F noA H [] ⟨[], []⟩ ∧ C.F0 x1 = some (ExV (.ref (cl c)) dd x1) ∧ Rp C F (.ref x1) (.exi c v) ∧
  PostF C F H Q (fun _ _ _ => False) (m [.val (.exi c v)] [])
section
variable {X : Cx} {cl : Str → Addr} {k i : Nat} {f : Addr} {fd : FuncData} {p n fn : Str} {m : List SV → List MO → FRes} {p1 p2 pos : Pos} {a : Addr} {pn : List (Addr × Obj)}
theorem pe_callHot (F : FnHot X.prog X.w X.K X.mg X.base cl k f fd p m) (hr : Room k X.A) (gu : X.A.guards = some []) (hb : Binds X.K fd [p] []) (hg : Gl X fn) (hm : X.mg fn = some (.ref f)) (hk : PySem.W.keepIn X.K (.ref f) = true) (hdb : (fn == ("__debug__" : Str)) = false)
    (hi : X.N[i]? = some n) (hln : X.env.kindOf n = some .local) (hdn : (n == ("__debug__" : Str)) = false) (hcn : (n == ("__classdict__" : Str)) = false)
    (he : starEach [.Name n p2] (X.suite a pn).env = (false, eval (.Name n p2) (X.suite a pn).env) :: starEach [] (X.suite a pn).env) (hpl : (backTo pos (starEach [] (X.suite a pn).env)).any (·.1) = false) :
    PE (X.suite a pn) (.Call (.Name fn p1) [.Name n p2] [] pos) (fun σ H Q => σ[i]? = some (some (.ref a)) ∧ spHot X.K cl m a H Q) := by
  refine ⟨fun pins s σ H Q I h => ?_⟩
  have pa := pa_cons (pe_var (i := i) (X := X.suite a pn) hi (.inl hln) hdn hcn) pa_nil he
  refine wpAny_Call_Name_kw (ld_glob I hg hm ?_ hdb)
  refine PySem.W.callWith_K (h₀ := X.base) I.ok.mod.kin hk (thn (pa.run pos pins s σ H (fun vs H1 => vs = [V.ref a] ∧ spHot X.K cl m a H1 Q) I ⟨_, h.1, rfl, h.2⟩) ?_) he hpl
  rintro us s1 ⟨vs, H1, I1, rel, rfl, C, F1, dd, c, v, hK, hcl, o, hF0, r, post⟩
  refine ⟨I1.kIn, ?_⟩
  cases rel with
  | cons ra rn =>
    rename_i u us'
    cases rn
    obtain rfl : u = Value.ref a := ra
    have room : L2H.RoomH k (X.suite a pn).A := ⟨hr.dp, hr.un⟩
    refine wpAny_call (codeAny_mono (F.go (X.suite a pn).A X.stack s1 H1 ⟨[.ref a], []⟩ C F1 a dd c v Q (fun _ _ _ => False) room gu rfl I1.env0 (hb s1 [.ref a] I1.kIn rfl) hK hcl o hF0 r post) ?_)
    intro res s' z
    have q := cr_ep (X := X.suite a pn) (Cn := L2N.CX X.prog X.w) (D := fun _ _ _ => False) (fun _ _ _ e s' _ ⟨_, _, _, _, _, _, _, _, _, _, _, _, w⟩ => w.elim) I1 z
    cases res with
    | error er => exact q
    | ok fl => cases fl <;> first | exact q | exact q.elim
/-- try: body / except StrideError as n: return F(n) (n slot i) -/
def gTryR (i : Nat) (m : List SV → List MO → FRes) (gb : Stt → Fl) : Stt → Fl := fun s => match gb s with
  | .ex c v s1 => if c ∈ errNames ∧ i < s1.ro.length then (match m [.val (.exi c v)] [] with
    | .ok r [] => .rt r (setV i (.exi c v) s1)
    | _ => .stuck) else .stuck
  | r => r
variable {C : Fx} {W : WX} {body : List Stmt} {gb : Stt → Fl}
theorem ds_tryR {np pos' q1 q2 q3 q4 q5 : Pos} (bd : Bd X W) (T : ErrK X.K C.cl) (hK : X.K = C.K) (hex : X.ex = []) (hs : X.stack = X.env :: X.outer) (hf : X.env.frame = some X.env.locals) (hN : X.N.Nodup) (hi : X.N[i]? = some n)
    (hln : X.env.kindOf n = some .local) (hgS : Gl X "StrideError") (hmS : X.mg "StrideError" = some (.ref (C.cl "StrideError")))
    (Fh : FnHot X.prog X.w X.K X.mg X.base C.cl k f fd p m) (hr : Room k X.A) (hbn : Binds X.K fd [p] []) (hgF : Gl X fn) (hmF : X.mg fn = some (.ref f)) (hkF : PySem.W.keepIn X.K (.ref f) = true)
    (hb : ∀ (W' : WX) (pn : List (Addr × Obj)) (xe : Value → Shared → Prop), Bd (X.tr pn xe) W' → DSs (X.tr pn xe) C W' body gb)
    (hdb : (fn == ("__debug__" : Str)) = false := by decide) (hdn : (n == ("__debug__" : Str)) = false := by decide) (hcn : (n == ("__classdict__" : Str)) = false := by decide)
    (he : ∀ (a : Addr) (pn : List (Addr × Obj)), starEach [.Name n q2] (X.suite a pn).env = (false, eval (.Name n q2) (X.suite a pn).env) :: starEach [] (X.suite a pn).env := by intros; rfl)
    (hpl : ∀ (a : Addr) (pn : List (Addr × Obj)), (backTo q3 (starEach [] (X.suite a pn).env)).any (·.1) = false := by intros; rfl) :
    DS X C W (.Try body [.ExceptHandler (some (.Name "StrideError" np)) (some n) [.Return (some (.Call (.Name fn q1) [.Name n q2] [] q3)) q4] pos'] [] [] q5) (gTryR i m gb) := by
  have hb' : ∀ (W' : WX) (pn : List (Addr × Obj)) (xe : Value → Shared → Prop), Bd (X.tr pn xe) W' → ∃ t, PSs (X.tr pn xe) body t ∧ ∀ F A H σ s D, OkF C F A H σ s → PostS C W' F A H D (gb s) → t D σ H := fun W' pn xe b => (hb W' pn xe b).pr
  let tb : WX → TS := fun W' D σ H => ∀ t, (∃ (pn : List (Addr × Obj)) (xe : Value → Shared → Prop), Bd (X.tr pn xe) W' ∧ PSs (X.tr pn xe) body t ∧ ∀ F A H σ s D, OkF C F A H σ s → PostS C W' F A H D (gb s) → t D σ H) → t D σ H
  refine ⟨_, ps_try_trk (i := i) (n := n) (c := .ref (C.cl "StrideError")) (tb := tb) (ts := fun a => tRet (fun σ H Q => σ[i]? = some (some (.ref a)) ∧ spHot X.K C.cl m a H Q)) hex hs hf hN hi hln ⟨hgS, by decide, .inl hmS⟩ (fun W' pn xe tk own => ?_) (fun a pn => ?_), fun F A H σ s D o pp => ?_⟩
  · have b : Bd (X.tr pn xe) W' := ⟨bd.calm, own, tk, bd.hd, bd.gu⟩
    obtain ⟨t, h1, h2⟩ := hb' W' pn xe b
    exact ⟨fun pins s σ H D I h => h1.run pins s σ H D I (h t ⟨pn, xe, b, h1, h2⟩)⟩
  · exact pss_one (ps_ret (pe_callHot Fh hr bd.gu hbn hgF hmF hkF hdb hi hln hdn hcn (he a pn) (hpl a pn)))
  · intro t ⟨pn, xe, b, h1, h2⟩
    refine h2 F A H σ s D o ?_
    unfold gTryR at pp
    cases e : gb s with
    | ex c v s1 =>
      rw [e] at pp
      simp only at pp
      split at pp
      · rename_i hc
        intro d σ1 F1 A1 H1 o1 st1 xa
        obtain ⟨u, hd, ru⟩ := xa
        refine ⟨T.exm c hc.1, d, rfl, fun a ha => ?_⟩
        have hl : i < σ1.length := by rw [o1.len]; exact hc.2
        obtain ⟨o2, st2⟩ := o1.alloc (o := ExV (.ref (C.cl c)) d a) ha
        have r2 : Rp C (L2.upd F1 a (ExV (.ref (C.cl c)) d a)) (.ref a) (.exi c v) := .exi L2.upd_same (st2.s1 _ _ hd) (ru.mono st2.s1)
        obtain ⟨o3, st3⟩ := o2.setV (i := i) r2
        refine ⟨List.getElem?_set_self hl, bare C C.fa (L2.upd F1 a (ExV (.ref (C.cl c)) d a)), _, d, c, v, hK.symm, rfl, o3.bare (fun _ _ h => h), L2.upd_same, r2.cg (by rfl) (by rfl), ?_⟩
        cases em : m [.val (.exi c v)] [] with
        | ok r mu =>
          rw [em] at pp
          cases mu with
          | cons _ _ => exact pp.elim
          | nil =>
            intro w F' H' o' st' rw_
            obtain ⟨o4, st4⟩ := o3.unbare o' st'
            exact pp w _ F' _ H' o4 (st1.trans (st2.trans (st3.trans st4))) (rw_.cg (by rfl) (by rfl))
        | own mo mu => rw [em] at pp; exact pp.elim
        | ex c2 v2 mu => rw [em] at pp; exact pp.elim
        | stuck => rw [em] at pp; exact pp.elim
      · exact pp.elim
    | nx s1 => rw [e] at pp; exact pp
    | bk s1 => rw [e] at pp; exact pp
    | ct s1 => rw [e] at pp; exact pp
    | rt v s1 => rw [e] at pp; exact pp
    | rto m s1 => rw [e] at pp; exact pp
    | stuck => rw [e] at pp; exact pp
end
end PLH
/-! PLJ: "..".join(list of texts). -/
namespace PL
open PySem PySem.Spec PyProof.Rows L2
def strsOf : List PV → Option (List Str)
  | [] => some []
  | .str x :: r => (strsOf r).map (x :: ·)
  | _ => none
theorem strsOf_map : ∀ ys : List Str, strsOf (ys.map PV.str) = some ys
  | [] => rfl
  | y :: ys => by
    show (strsOf (ys.map PV.str)).map (y :: ·) = _
    rw [strsOf_map ys]
    rfl
theorem strsOf_eq : ∀ {l : List PV} {ys : List Str}, strsOf l = some ys → l = ys.map PV.str
  | [], ys, h => by cases h; rfl
  | p :: r, ys, h => by
    cases p with
    | str x =>
      have h : (strsOf r).map (x :: ·) = some ys := h
      cases hr : strsOf r with
      | none => rw [hr] at h; cases h
      | some zs =>
        rw [hr] at h
        cases h
        rw [strsOf_eq hr]
        rfl
    | _ => cases h
section
variable {X : Cx} {C : Fx} {W : WX} {e : Expr} {fe : Stt → Res PV} {F : Hp}
theorem Rps.texts : ∀ {vs : List V} {ys : List Str}, Rps C F vs (ys.map PV.str) → vs = ys.map V.str
  | _, [], .nil => rfl
  | _, y :: ys, .cons (.str _) r => by rw [List.map_cons, Rps.texts (ys := ys) r]
/-- a.join(list of texts) -/
def eJoin (a : Str) (fe : Stt → Res PV) : Stt → Res PV := fun s => (fe s).bind fun p s1 => match p with
  | .lst l => match strsOf l with
    | some ys => if (ys.map (·.length)).sum + ys.length * a.length ≤ 16777216 then .ok (.str (Txt.join a ys)) s1 else .stuck
    | none => .stuck
  | _ => .stuck
theorem dv_join {a : Str} {j : Nat} {pa apos pos : Pos} (he : DV X C W e fe) (hs : starEach [e] X.env = [(false, eval e X.env)] := by rfl)
    (hbase : attributeBase (.Constant (.str a) j pa) "join" X.env (eval (.Constant (.str a) j pa) X.env) = eval (.Constant (.str a) j pa) X.env := by rfl) (hline : (apos.endLine == pos.line) = true := by rfl) :
    DV X C W (.Call (.Attribute (.Constant (.str a) j pa) "join" apos) [e] [] pos) (eJoin a fe) := by
  obtain ⟨te, pe, qe⟩ := he.pr
  refine ⟨_, pe_m1 PySem.F.slot_str_join PySem.F.type_str_join mt_join pe_str pe hs hbase hline, fun F A H σ s Q o pp => ?_⟩
  refine ⟨⟨a, rfl⟩, qe F A H σ s _ o (pp.seq fun q1 s1 v1 F1 A1 H1 _ o1 st1 r1 p1 => ?_)⟩
  cases r1 with
  | @lst x xs l h1 h2 =>
    simp only at p1
    cases hl : strsOf l with
    | none => rw [hl] at p1; exact p1.elim
    | some ys =>
      rw [hl] at p1
      simp only at p1
      rw [strsOf_eq hl] at h2
      have := h2.texts
      subst this
      split at p1
      · rename_i hz
        exact ⟨a, x, ys, rfl, rfl, .inl (.of (o1.sub _ _ h1)), hz, Post.now o1 p1 (.str _)⟩
      · exact p1.elim
  | _ => exact p1.elim
end
end PL
/-! PWZ: small lemmas of the walk (for all newer laws). -/
namespace PM
open PySem PySem.Spec PyProof.Rows L2 PL PN
theorem call1_ok {st : Stt} {m : List SV → List MO → FRes} {f0 : Stt → Res PV} {p0 r : PV} (h0 : f0 st = .ok p0 st) (e : m [.val p0] [] = .ok r []) : eCall m (avN 1 (lPv f0 lNil)) st = .ok r st := by
  simp only [eCall, avN, lPv, lNil, h0, Res.bind_ok, List.length_cons, List.length_nil, Nat.reduceAdd, if_true, lowerA, distinct, getAll, setAll, e]
theorem call1_ex {st : Stt} {m : List SV → List MO → FRes} {f0 : Stt → Res PV} {p0 v : PV} {c : Str} (h0 : f0 st = .ok p0 st) (e : m [.val p0] [] = .ex c v []) : eCall m (avN 1 (lPv f0 lNil)) st = .ex c v st := by
  simp only [eCall, avN, lPv, lNil, h0, Res.bind_ok, List.length_cons, List.length_nil, Nat.reduceAdd, if_true, lowerA, distinct, getAll, setAll, e]
theorem call2_ok {st : Stt} {m : List SV → List MO → FRes} {f0 f1 : Stt → Res PV} {p0 p1 r : PV} (h0 : f0 st = .ok p0 st) (h1 : f1 st = .ok p1 st) (e : m [.val p0, .val p1] [] = .ok r []) : eCall m (avN 2 (lPv f0 (lPv f1 lNil))) st = .ok r st := by
  simp only [eCall, avN, lPv, lNil, h0, h1, Res.bind_ok, List.length_cons, List.length_nil, Nat.reduceAdd, if_true, lowerA, distinct, getAll, setAll, e]
theorem call2_ex {st : Stt} {m : List SV → List MO → FRes} {f0 f1 : Stt → Res PV} {p0 p1 v : PV} {c : Str} (h0 : f0 st = .ok p0 st) (h1 : f1 st = .ok p1 st) (e : m [.val p0, .val p1] [] = .ex c v []) : eCall m (avN 2 (lPv f0 (lPv f1 lNil))) st = .ex c v st := by
  simp only [eCall, avN, lPv, lNil, h0, h1, Res.bind_ok, List.length_cons, List.length_nil, Nat.reduceAdd, if_true, lowerA, distinct, getAll, setAll, e]
theorem call3_ok {st : Stt} {m : List SV → List MO → FRes} {f0 f1 f2 : Stt → Res PV} {p0 p1 p2 r : PV} (h0 : f0 st = .ok p0 st) (h1 : f1 st = .ok p1 st) (h2 : f2 st = .ok p2 st) (e : m [.val p0, .val p1, .val p2] [] = .ok r []) : eCall m (avN 3 (lPv f0 (lPv f1 (lPv f2 lNil)))) st = .ok r st := by
  simp only [eCall, avN, lPv, lNil, h0, h1, h2, Res.bind_ok, List.length_cons, List.length_nil, Nat.reduceAdd, if_true, lowerA, distinct, getAll, setAll, e]
theorem call3_ex {st : Stt} {m : List SV → List MO → FRes} {f0 f1 f2 : Stt → Res PV} {p0 p1 p2 v : PV} {c : Str} (h0 : f0 st = .ok p0 st) (h1 : f1 st = .ok p1 st) (h2 : f2 st = .ok p2 st) (e : m [.val p0, .val p1, .val p2] [] = .ex c v []) : eCall m (avN 3 (lPv f0 (lPv f1 (lPv f2 lNil)))) st = .ex c v st := by
  simp only [eCall, avN, lPv, lNil, h0, h1, h2, Res.bind_ok, List.length_cons, List.length_nil, Nat.reduceAdd, if_true, lowerA, distinct, getAll, setAll, e]
theorem call4_ok {st : Stt} {m : List SV → List MO → FRes} {f0 f1 f2 f3 : Stt → Res PV} {p0 p1 p2 p3 r : PV} (h0 : f0 st = .ok p0 st) (h1 : f1 st = .ok p1 st) (h2 : f2 st = .ok p2 st) (h3 : f3 st = .ok p3 st) (e : m [.val p0, .val p1, .val p2, .val p3] [] = .ok r []) : eCall m (avN 4 (lPv f0 (lPv f1 (lPv f2 (lPv f3 lNil))))) st = .ok r st := by
  simp only [eCall, avN, lPv, lNil, h0, h1, h2, h3, Res.bind_ok, List.length_cons, List.length_nil, Nat.reduceAdd, if_true, lowerA, distinct, getAll, setAll, e]
theorem for_atZ {fi : Stt → Res (List PV)} {a : PV → Stt → Option Stt} {b : Stt → Fl} {s s1 : Stt} {l : List PV} (hi : fi s = .ok l s1) : gFor fi a b s = forL a b l s1 := by
  unfold gFor
  rw [hi]
  rfl
theorem if_yesZ {st s1 : Stt} {ft : Stt → Res Bool} {g h : Stt → Fl} (t : ft st = .ok true s1) : gIf ft g h st = g s1 := by
  simp only [gIf, t, Res.fl, if_true]
theorem nt_z {st s1 : Stt} {f : Stt → Res Bool} {b : Bool} (h : f st = .ok b s1) : tNt f st = .ok (!b) s1 := by
  simp only [tNt, h, Res.bind_ok]
theorem chainLt {st : Stt} {fa fb fc : Stt → Res PV} {i j k : Int} (ha : fa st = .ok (.int i) st) (hb : fb st = .ok (.int j) st) (hc : fc st = .ok (.int k) st) : eChain pLe pLt fa fb fc st = .ok (.bl (decide (i ≤ j ∧ j < k))) st := by
  have e1 : pLe (.int i) (.int j) = some (.bl (decide (i ≤ j))) := rfl
  have e2 : pLt (.int j) (.int k) = some (.bl (decide (j < k))) := rfl
  unfold eChain
  rw [ha, Res.bind_ok, hb, Res.bind_ok, e1]
  by_cases h : i ≤ j
  · rw [decide_eq_true h]
    show ((fc st).bind fun r s3 => Res.opt s3 (pLt (.int j) r)) = _
    rw [hc, Res.bind_ok, e2, Res.opt_some]
    congr 2
    simp [h]
  · rw [decide_eq_false h]
    show Res.ok (PV.bl false) st = _
    congr 2
    simp [h]
theorem chainLe {st : Stt} {fa fb fc : Stt → Res PV} {i j k : Int} (ha : fa st = .ok (.int i) st) (hb : fb st = .ok (.int j) st) (hc : fc st = .ok (.int k) st) : eChain pLe pLe fa fb fc st = .ok (.bl (decide (i ≤ j ∧ j ≤ k))) st := by
  have e1 : pLe (.int i) (.int j) = some (.bl (decide (i ≤ j))) := rfl
  have e2 : pLe (.int j) (.int k) = some (.bl (decide (j ≤ k))) := rfl
  unfold eChain
  rw [ha, Res.bind_ok, hb, Res.bind_ok, e1]
  by_cases h : i ≤ j
  · rw [decide_eq_true h]
    show ((fc st).bind fun r s3 => Res.opt s3 (pLe (.int j) r)) = _
    rw [hc, Res.bind_ok, e2, Res.opt_some]
    congr 2
    simp [h]
  · rw [decide_eq_false h]
    show Res.ok (PV.bl false) st = _
    congr 2
    simp [h]
theorem tOf_z {st s1 : Stt} {f : Stt → Res PV} {b : Bool} (h : f st = .ok (.bl b) s1) : tOf f st = .ok b s1 := by
  simp only [tOf, h, Res.bind_ok]
theorem tTru_bl {st s1 : Stt} {f : Stt → Res PV} {b : Bool} (h : f st = .ok (.bl b) s1) : tTru f st = .ok b s1 := by
  simp only [tTru, h, Res.bind_ok, pTru, Res.opt_some]
theorem dropZ {st s1 : Stt} {fa : Stt → Res PV} {p : PV} (ha : fa st = .ok p s1) : gDrop fa st = .nx s1 := by
  unfold gDrop
  rw [ha]
  rfl
theorem drop_ex {st s1 : Stt} {fa : Stt → Res PV} {c : Str} {v : PV} (ha : fa st = .ex c v s1) : gDrop fa st = .ex c v s1 := by
  unfold gDrop
  rw [ha]
  rfl
theorem seq_ex {f g : Stt → Fl} {s s1 : Stt} {c : Str} {v : PV} (h : f s = .ex c v s1) : gSeq f g s = .ex c v s1 := by
  simp only [gSeq, h]
theorem raise_z {st s1 : Stt} {fe : Stt → Res PV} {c : Str} {v : PV} (h : fe st = .ok v s1) : gRaise c fe st = .ex c v s1 := by
  unfold gRaise
  rw [h]
  rfl
theorem oneZ {g : Stt → Fl} {st s1 : Stt} (h : g st = .nx s1) : gSeq g gNop st = .nx s1 := by
  simp only [gSeq, h, gNop]
end PM
/-! PWE: errors of calls (over the mirrors that tell their raises: PM_live): checks, what is told of a call. -/
namespace PM
open PySem PySem.Spec PyProof.Rows L2 PL PN
/-! ### plain -/
/-! ### the checks -/
theorem ck_shape {ft : Stt → Res Bool} {fe : Stt → Res PV} {c : Str} {v : PV} {st : Stt} {b : Bool} (h : ft st = .ok (!b) st) (hv : fe st = .ok v st) : gSeq (gIf ft (gSeq (gRaise c fe) gNop) gNop) gNop st = if b = true then .nx st else .ex c v st := by
  cases b with
  | true => exact oneZ (if_no h)
  | false =>
    have e := (if_yesZ (g := gSeq (gRaise c fe) gNop) (h := gNop) h).trans (seq_ex (raise_z hv))
    exact seq_ex e
/-! ### the law's words -/
/-- a piece of code that ends as o says, and changes nothing -/
def Mo (f : Stt → Fl) (st : Stt) : Option (Str × Int) → Prop
  | none => f st = .nx st
  | some (c, v) => f st = .ex c (.int v) st
theorem Mo.one {f : Stt → Fl} {st : Stt} : ∀ {o : Option (Str × Int)}, Mo f st o → Mo (gSeq f gNop) st o
  | none, h => oneZ h
  | some _, h => seq_ex h
/-! ### calls that draw: the pool is the first slot's, lent -/
theorem callBg {op : List PV → Option PV} {fa : Stt → Res (List PV)} {st s1 : Stt} {l : List PV} {r : PV} (ha : fa st = .ok l s1) (h : op l = some r) : eCallB op fa st = .ok r s1 := by
  unfold eCallB
  rw [ha]
  show Res.opt s1 (op l) = _
  rw [h]
  rfl
end PM
/-! PHE: how calls end, told with the error's value; guards' defs; try .. return F(e) evaluated. -/
namespace PM
open PySem PySem.Spec PyProof.Rows L2 PL PN
/-- how a call ends: it gives something, or an error of a class with a value -/
def TellV (r : FRes) : Option (Str × PV) → Prop
  | none => ∃ v, r = .ok v []
  | some (c, v) => r = .ex c v []
def dueV : Option (Str × PV) → PV
  | none => .non
  | some (c, v) => .tup [.str c, v]
theorem tryR_nx {i : Nat} {m : List SV → List MO → FRes} {gb : Stt → Fl} {st s1 : Stt} (h : gb st = .nx s1) : PLH.gTryR i m gb st = .nx s1 := by
  unfold PLH.gTryR
  rw [h]
theorem tryR_ex {i : Nat} {m : List SV → List MO → FRes} {gb : Stt → Fl} {st s1 : Stt} {c : Str} {v r : PV} (h : gb st = .ex c v s1) (hc : c ∈ errNames) (hi : i < s1.ro.length) (hm : m [.val (.exi c v)] [] = .ok r []) : PLH.gTryR i m gb st = .rt r (setV i (.exi c v) s1) := by
  unfold PLH.gTryR
  rw [h]
  simp only
  rw [if_pos ⟨hc, hi⟩, hm]
theorem one_ex {g : Stt → Fl} {st s1 : Stt} {c : Str} {v : PV} (h : g st = .ex c v s1) : gSeq g gNop st = .ex c v s1 := seq_ex h
end PM
/-! PHD: draws within statements (the source lent at slot 0, or owned by slot 1). -/
namespace PM
open PySem PySem.Spec PyProof.Rows L2 PL PN
section
variable {ro : List (Option SV)} {m m1 m2 : MO} {k : Nat} {x0 : Option SV}
theorem dr {f : Stt → Res PV} {c d : Int} (hf : f ⟨some (.bor 0) :: ro, [m]⟩ = .ok (.int c) ⟨some (.bor 0) :: ro, [m1]⟩) (e : m__law_draw [.bor 0, .val (.int c)] [m1] = .ok (.int d) [m2]) : eCall PM.m__law_draw (avN 2 (lSl 0 (lPv f lNil))) ⟨some (.bor 0) :: ro, [m]⟩ = .ok (.int d) ⟨some (.bor 0) :: ro, [m2]⟩ := by
  simp only [eCall, avN, lSl, lPv, lNil, List.getElem?_cons_zero, hf, Res.bind_ok, List.length_cons, List.length_nil, Nat.reduceAdd, if_true, lowerA, PL.keyOf, distinct, getAll, getK, setAll, setK, List.set_cons_zero, Option.map_some, List.contains_nil, List.elem_nil, Bool.not_false, Bool.and_self, e]
  first | rfl | (simp [getAll, getK, setAll, setK, PL.keyOf, lowerA, distinct, e])
theorem sm8 {x : Int} (h0 : 0 ≤ x) (h : x ≤ 1000000000000000000000000000000) : x.natAbs < 2 ^ 8000 := Nat.lt_of_le_of_lt (m := 1000000000000000000000000000000) (by omega) (by decide +kernel)
theorem draw3 (hp : Src k m) (hk : k < 2 ^ 55) (c : Int) (h0 : 0 < c) (hc : c ≤ 1000000000000000000000000000000) : ∃ d m', m__law_draw [.bor 0, .val (.int c)] [m] = .ok (.int d) [m'] ∧ 0 ≤ d ∧ d < c ∧ Src (k + 1) m' := e_draw hp (by omega) c h0 (sm8 (by omega) hc)
theorem at_mem (l : List PV) (d : Int) (h0 : 0 ≤ d) (h1 : d < l.length) : ∃ v ∈ l, atI l d = some v := by
  obtain ⟨i, rfl⟩ := Int.eq_ofNat_of_zero_le h0
  have hi : i < l.length := by omega
  exact ⟨l[i], List.getElem_mem hi, atI_at (List.getElem?_eq_getElem hi)⟩
theorem dro {f : Stt → Res PV} {st : Stt} {c d : Int} (hs : st = ⟨x0 :: some (.own m) :: ro, []⟩) (hf : f st = .ok (.int c) ⟨x0 :: some (.own m1) :: ro, []⟩) (e : m__law_draw [.bor 0, .val (.int c)] [m1] = .ok (.int d) [m2]) : eCall PM.m__law_draw (avN 2 (lSl 1 (lPv f lNil))) st = .ok (.int d) ⟨x0 :: some (.own m2) :: ro, []⟩ := by
  subst hs
  simp only [eCall, avN, lSl, lPv, lNil, List.getElem?_cons_zero, List.getElem?_cons_succ, hf, Res.bind_ok, List.length_cons, List.length_nil, Nat.reduceAdd, if_true, lowerA, PL.keyOf, distinct, getAll, getK, setAll, setK, List.set_cons_zero, List.set_cons_succ, Option.map_some, List.contains_nil, List.elem_nil, Bool.not_false, Bool.and_self, e]
  first | rfl | (simp [getAll, getK, setAll, setK, PL.keyOf, lowerA, distinct, e])
theorem cl0 {M : List SV → List MO → FRes} {q : PV} (e : M [.bor 0] [m] = .ok q [m2]) : eCall M (avN 1 (lSl 1 lNil)) ⟨x0 :: some (.own m) :: ro, []⟩ = .ok q ⟨x0 :: some (.own m2) :: ro, []⟩ := by
  simp only [eCall, avN, lSl, lPv, lNil, List.getElem?_cons_zero, List.getElem?_cons_succ, Res.bind_ok, List.length_cons, List.length_nil, Nat.reduceAdd, if_true, lowerA, PL.keyOf, distinct, getAll, getK, setAll, setK, List.set_cons_zero, List.set_cons_succ, Option.map_some, List.contains_nil, List.elem_nil, Bool.not_false, Bool.and_self, e]
  first | rfl | (simp [getAll, getK, setAll, setK, PL.keyOf, lowerA, distinct, e])
theorem picko {x0 : Option SV} {ro : List (Option SV)} {m : MO} {k : Nat} (hp : Src k m) (hk : k < 2 ^ 55) (l : List PV) (c : Int) (hl : c = l.length) (h0 : 0 < c) (hc : c ≤ 1000) {fl : Stt → Res (List PV)} {st : Stt} (hf : fl st = .ok l ⟨x0 :: some (.own m) :: ro, []⟩) :
    ∃ v ∈ l, ∃ m', Src (k + 1) m' ∧ eBin pIx (frz (oLst fl)) (eCall PM.m__law_draw (avN 2 (lSl 1 (lPv (eC (.int c)) lNil)))) st = .ok v ⟨x0 :: some (.own m') :: ro, []⟩ := by
  obtain ⟨d, m', e, a, z, p⟩ := draw3 hp hk c h0 (by omega)
  obtain ⟨v, hv, ea⟩ := at_mem l d a (by omega)
  exact ⟨v, hv, m', p, bin_at2 (lst_at hf (by omega)) (dro rfl rfl e) ea⟩
end
theorem comp_in {st s0 s1 s2 : Stt} {vs : List Nat} {fi : Stt → Res (List PV)} {a : PV → Stt → Option Stt} {ft : Stt → Res Bool} {fe : Stt → Res PV} {l out : List PV} (hi : fi st = .ok l s0) (h : compL vs a ft fe l [] (wipeS vs s0) = .ok out s1) (hb : backS vs s0 s1 = s2) : frz (oComp vs fi a ft fe) st = .ok (.lst out) s2 := by
  unfold frz oComp
  rw [hi]
  simp only [Res.bind_ok, h, noEx, hb]
/-- range(4 + min(8, len(script))) -/
theorem laps {ns : List Int} (hl : ns.length ≤ 63) {st : Stt} (h : st.ro[0]? = some (some (.val (scrOf ns)))) : ∃ N : Nat, N ≤ 12 ∧ iRangeW1 (aCons (eBin pAdd (eC (.int 4)) (eCallB pMin2 (aCons (eC (.int 8)) (aCons (eCallB pLen (aCons (eVar 0) aNil)) aNil)))) aNil) st = .ok (rng 0 N) st := by
  have e0 : eVar 0 st = .ok (scrOf ns) st := by
    unfold eVar
    rw [h] <;> rfl
  have e1 : eCallB pLen (aCons (eVar 0) aNil) st = .ok (.int ((ns.length : Nat) : Int)) st := callB1_at e0 (by
    show some (PV.int (((ns.map PV.int).length : Nat) : Int)) = _
    rw [List.length_map])
  have e2 : eCallB pMin2 (aCons (eC (.int 8)) (aCons (eCallB pLen (aCons (eVar 0) aNil)) aNil)) st = .ok (.int (if ((ns.length : Nat) : Int) < 8 then ((ns.length : Nat) : Int) else 8)) st := callBg (l := [.int 8, .int ((ns.length : Nat) : Int)]) (acons_at (s1 := st) rfl (acons_at e1 rfl)) rfl
  refine ⟨(4 + (if ((ns.length : Nat) : Int) < 8 then ((ns.length : Nat) : Int) else 8)).toNat, by split <;> omega, ?_⟩
  unfold iRangeW1
  rw [show aCons (eBin pAdd (eC (.int 4)) (eCallB pMin2 (aCons (eC (.int 8)) (aCons (eCallB pLen (aCons (eVar 0) aNil)) aNil)))) aNil st = .ok [.int (4 + (if ((ns.length : Nat) : Int) < 8 then ((ns.length : Nat) : Int) else 8))] st from acons_at (bin_at rfl e2 rfl) rfl]
  rfl
/-- f and g -/
theorem an_v {st : Stt} {f g : Stt → Res PV} {b c : Bool} (h : f st = .ok (.bl b) st) (k : g st = .ok (.bl c) st) : eAn f g st = .ok (.bl (b && c)) st := by
  unfold eAn
  rw [h]
  cases b
  · rfl
  · exact k
theorem is_non {st : Stt} {f : Stt → Res PV} {a : Option (Str × PV)} (h : f st = .ok (dueV a) st) : tOf (eBin pIs f (eC .non)) st = .ok a.isNone st := by
  cases a with
  | none => exact tOf_z (bin_at (q := .non) h rfl rfl)
  | some p => exact tOf_z (bin_at (q := .non) h rfl rfl)
end PM
/-! PHN: names of arrays, valid or not; the doors of written.py. -/
namespace PM
open PySem PySem.Spec PyProof.Rows L2 PL PN
def ltB (c : Nat) : Bool := decide (c ∈ letters.cps.toList)
def nmB (z : Str) : Bool := decide (1 ≤ (z.length : Int) ∧ (z.length : Int) ≤ 8) && z.cps.toList.all ltB
theorem nm_of {z : Str} (h : nmB z = true) (so : PyData.strOk z = true) : Nm z := by
  unfold nmB at h
  rw [Bool.and_eq_true, List.all_eq_true] at h
  have k := of_decide_eq_true h.1
  exact ⟨⟨by omega, by omega, fun c hc => of_decide_eq_true (h.2 c hc)⟩, so⟩
theorem nmB_of {z : Str} (h : Nm z) : nmB z = true := by
  unfold nmB
  rw [Bool.and_eq_true, List.all_eq_true]
  refine ⟨decide_eq_true ⟨by have := h.arr.l0; omega, by have := h.arr.l1; omega⟩, fun c hc => decide_eq_true (h.arr.sg c hc)⟩
theorem pAll_bl (l : List Nat) : pAll [.lst (l.map fun c => PV.bl (ltB c))] = some (.bl (l.all ltB)) := by
  have e := any_bls (l.map ltB)
  rw [List.map_map] at e
  show (allBl (l.map (PV.bl ∘ ltB))).map _ = _
  rw [e, Option.map_some, List.all_map]
  rfl
theorem e_is_arr (z : Str) (hl : z.length ≤ 1000) : m_is_array [.val (.str z)] [] = .ok (.bl (nmB z)) [] := by
  have hz : z.length = z.cps.size := rfl
  have len : eCallB pLen (aCons (eVar 0) aNil) ⟨[some (.val (.str z)), none], []⟩ = .ok (.int (z.length : Int)) ⟨[some (.val (.str z)), none], []⟩ := callB1_at (p := .str z) rfl (by
    show (if z.length ≤ 16777216 then some (PV.int (z.length : Int)) else none) = _
    rw [if_pos (by omega)])
  have c := compL_M (vs := [1]) (a := aName 1) (fe := eBin pInSg (eVar 1) (eC (.str letters))) (s := ⟨[some (.val (.str z)), none], []⟩) (fun c : Nat => PV.str ⟨#[c]⟩) (fun c => PV.bl (ltB c)) z.cps.toList (by simp; omega) (fun x hx =>
    ⟨⟨[some (.val (.str z)), some (.val (.str ⟨#[x]⟩))], []⟩, rfl, ⟨[some (.val (.str z)), some (.val (.str ⟨#[x]⟩))], []⟩, bin_at rfl rfl rfl, rfl⟩)
  have cc := comp_at (vs := [1]) (fi := iTxt (eVar 0)) (a := aName 1) (ft := tYesD) (fe := eBin pInSg (eVar 1) (eC (.str letters))) (l := z.cps.toList.map fun c => PV.str ⟨#[c]⟩) (st := ⟨[some (.val (.str z)), none], []⟩) (s2 := ⟨[some (.val (.str z)), none], []⟩) rfl c rfl
  have b : g_is_array ⟨[some (.val (.str z)), none], []⟩ = .rt (.bl (nmB z)) ⟨[some (.val (.str z)), none], []⟩ := by
    unfold g_is_array
    exact seq_rt (ret_at (an_v (chainLe rfl len rfl) (callB1_at cc (pAll_bl _))))
  exact congrArg endF b
theorem ck_arr (z : Str) (hl : z.length ≤ 1000) : m_check_array [.val (.str z)] [] = if nmB z = true then .ok .non [] else .ex "InvalidArray" (.str z) [] := by
  have b : g_check_array ⟨[some (.val (.str z))], []⟩ = if nmB z = true then .nx ⟨[some (.val (.str z))], []⟩ else .ex "InvalidArray" (.str z) ⟨[some (.val (.str z))], []⟩ := by
    unfold g_check_array
    exact ck_shape (b := nmB z) (nt_z (tTru_bl (call1_ok rfl (e_is_arr z hl)))) rfl
  show endF (g_check_array ⟨[some (.val (.str z))], []⟩) = _
  rw [b]
  split <;> rfl
/-- what a door that checks a name first tells -/
def aE (z : Str) (o : Option (Str × PV)) : Option (Str × PV) := if nmB z = true then o else some ("InvalidArray", .str z)
def nbE (x N : Int) : Option (Str × PV) := if 0 ≤ x ∧ x < N then none else some ("InvalidNumber", .int x)
section
variable {n M : Int} {xs : List Stm} {bs : List Int} {z : Str} {c : Int}
theorem t_cw (W : WH n M xs) (hl : z.length ≤ 1000) (so : PyData.strOk z = true) : TellV (m_count_written [.val (kern n (xs.map Stm.pv) (bs.map PV.int)), .val (.str z)] []) (aE z none) := by
  unfold aE
  have k := ck_arr z hl
  by_cases g : nmB z = true
  · rw [if_pos g]
    obtain ⟨j, e, _⟩ := e_count_written (bs := bs) W (nm_of g so)
    exact ⟨_, e⟩
  · rw [if_neg g] at k ⊢
    have b : g_count_written ⟨[some (.val (kern n (xs.map Stm.pv) (bs.map PV.int))), some (.val (.str z))], []⟩ = .ex "InvalidArray" (.str z) ⟨[some (.val (kern n (xs.map Stm.pv) (bs.map PV.int))), some (.val (.str z))], []⟩ := by
      rw [g_count_written_eq]
      exact seq_ex (drop_ex (call1_ex rfl k))
    exact congrArg endF b
theorem t_wb (W : WH n M xs) (hl : z.length ≤ 1000) (so : PyData.strOk z = true) : TellV (m_written_below [.val (kern n (xs.map Stm.pv) (bs.map PV.int)), .val (.str z), .val (.int c)] []) (aE z none) := by
  unfold aE
  have k := ck_arr z hl
  by_cases g : nmB z = true
  · rw [if_pos g]
    obtain ⟨j, e, _⟩ := e_written_below (bs := bs) W (nm_of g so) c
    exact ⟨_, e⟩
  · rw [if_neg g] at k ⊢
    have b : g_written_below ⟨[some (.val (kern n (xs.map Stm.pv) (bs.map PV.int))), some (.val (.str z)), some (.val (.int c))], []⟩ = .ex "InvalidArray" (.str z) ⟨[some (.val (kern n (xs.map Stm.pv) (bs.map PV.int))), some (.val (.str z)), some (.val (.int c))], []⟩ := by
      rw [g_written_below_eq]
      exact seq_ex (drop_ex (call1_ex rfl k))
    exact congrArg endF b
theorem t_iw (W : WH n M xs) (hl : z.length ≤ 1000) (so : PyData.strOk z = true) : TellV (m_is_written [.val (kern n (xs.map Stm.pv) (bs.map PV.int)), .val (.str z), .val (.int c)] []) (aE z none) := by
  unfold aE
  have k := ck_arr z hl
  by_cases g : nmB z = true
  · rw [if_pos g]
    obtain ⟨j, e, _⟩ := e_is_written (bs := bs) W (nm_of g so) c
    exact ⟨_, e⟩
  · rw [if_neg g] at k ⊢
    have b : g_is_written ⟨[some (.val (kern n (xs.map Stm.pv) (bs.map PV.int))), some (.val (.str z)), some (.val (.int c)), none], []⟩ = .ex "InvalidArray" (.str z) ⟨[some (.val (kern n (xs.map Stm.pv) (bs.map PV.int))), some (.val (.str z)), some (.val (.int c)), none], []⟩ := by
      rw [g_is_written_eq]
      exact seq_ex (drop_ex (call1_ex rfl k))
    exact congrArg endF b
theorem t_nw (W : WH n M xs) (hl : z.length ≤ 1000) (so : PyData.strOk z = true) {N : Nat} (hN : nmB z = true → m_count_written [.val (kern n (xs.map Stm.pv) (bs.map PV.int)), .val (.str z)] [] = .ok (.int N) []) :
    TellV (m_nth_written [.val (kern n (xs.map Stm.pv) (bs.map PV.int)), .val (.str z), .val (.int c)] []) (aE z (nbE c N)) := by
  unfold aE
  have k := ck_arr z hl
  by_cases g : nmB z = true
  · rw [if_pos g] at k ⊢
    obtain ⟨j, e, hj⟩ := e_count_written (bs := bs) W (nm_of g so)
    have ej : N = j := by
      have := hN g
      rw [e] at this
      have := FRes.ok.inj this
      have := PV.int.inj this.1
      omega
    subst ej
    unfold nbE
    by_cases hc : 0 ≤ c ∧ c < (N : Int)
    · rw [if_pos hc]
      obtain ⟨v, e2, _⟩ := e_nth_written (bs := bs) W (nm_of g so) hj (k := c.toNat) (by omega)
      rw [show ((c.toNat : Nat) : Int) = c by omega] at e2
      exact ⟨_, e2⟩
    · rw [if_neg hc]
      have hlx := W.hl
      have wl := wr_len (xs := xs) (nm := z)
      have ok := wr_ok (nm := z) W
      have ew := e_written_rows (bs := bs) (nm := z) (show xs.length ≤ 1000 by omega) W.ox W.bx (nm_of g so)
      obtain ⟨k', ek, hk'⟩ := e_union W.M0 W.bM 14 (wrows z (flat 0 xs)) (by omega) (by omega) ok
      have ek' : k' = N := (hk'.cg (wr_in W)).one hj
      subst ek'
      generalize wrows z (flat 0 xs) = rows at ew ek
      have b : g_nth_written ⟨[some (.val (kern n (xs.map Stm.pv) (bs.map PV.int))), some (.val (.str z)), some (.val (.int c)), none, none, none, none, none], []⟩ = .ex "InvalidNumber" (.int c) ⟨[some (.val (kern n (xs.map Stm.pv) (bs.map PV.int))), some (.val (.str z)), some (.val (.int c)), some (.val (rpv rows)), none, none, none, none], []⟩ := by
        rw [g_nth_written_eq]
        have t1 : q_nth_written_1 ⟨[some (.val (kern n (xs.map Stm.pv) (bs.map PV.int))), some (.val (.str z)), some (.val (.int c)), none, none, none, none, none], []⟩ = .nx ⟨[some (.val (kern n (xs.map Stm.pv) (bs.map PV.int))), some (.val (.str z)), some (.val (.int c)), none, none, none, none, none], []⟩ := drop_at (call1v rfl k)
        have t2 : q_nth_written_2 ⟨[some (.val (kern n (xs.map Stm.pv) (bs.map PV.int))), some (.val (.str z)), some (.val (.int c)), none, none, none, none, none], []⟩ = .nx ⟨[some (.val (kern n (xs.map Stm.pv) (bs.map PV.int))), some (.val (.str z)), some (.val (.int c)), some (.val (rpv rows)), none, none, none, none], []⟩ := asg_at (call2v rfl rfl ew) rfl
        have ch := chainLt (st := ⟨[some (.val (kern n (xs.map Stm.pv) (bs.map PV.int))), some (.val (.str z)), some (.val (.int c)), some (.val (rpv rows)), none, none, none, none], []⟩) (fa := eC (.int 0)) (fb := eVar 2) (fc := eCall PM.m_count_union (avN 1 (lPv (eVar 3) lNil))) (i := 0) (j := c) (k := (k' : Int)) rfl rfl (call1v rfl ek)
        rw [decide_eq_false hc] at ch
        have t3 : q_nth_written_3 ⟨[some (.val (kern n (xs.map Stm.pv) (bs.map PV.int))), some (.val (.str z)), some (.val (.int c)), some (.val (rpv rows)), none, none, none, none], []⟩ = .ex "InvalidNumber" (.int c) ⟨[some (.val (kern n (xs.map Stm.pv) (bs.map PV.int))), some (.val (.str z)), some (.val (.int c)), some (.val (rpv rows)), none, none, none, none], []⟩ :=
          (if_yesZ (nt_z (tOf_z ch))).trans (one_ex (raise_z rfl))
        rw [seq_nx t1, seq_nx t2]
        exact seq_ex t3
      exact congrArg endF b
  · rw [if_neg g] at k ⊢
    have b : g_nth_written ⟨[some (.val (kern n (xs.map Stm.pv) (bs.map PV.int))), some (.val (.str z)), some (.val (.int c)), none, none, none, none, none], []⟩ = .ex "InvalidArray" (.str z) ⟨[some (.val (kern n (xs.map Stm.pv) (bs.map PV.int))), some (.val (.str z)), some (.val (.int c)), none, none, none, none, none], []⟩ := by
      rw [g_nth_written_eq]
      exact seq_ex (drop_ex (call1_ex rfl k))
    exact congrArg endF b
end
end PM
namespace K20
open PySem PySem.Spec PyProof.Rows L2 PL
/-! ### the text by places -/
def top (i : Nat) : Stmt := PySem.Challenge.pw_stridelanes_k20_errors_of_written.main.body.getD i (.Pass ⟨0, 0, 0, 0⟩)
abbrev s_check_barriers : Stmt := top 33
abbrev s_is_array : Stmt := top 30
abbrev s_is_guard : Stmt := top 17
abbrev s_is_statement : Stmt := top 32
abbrev s_Kernel___init__ : Stmt := clsAt (top 34) 0
abbrev s__law_draw : Stmt := top 48
abbrev s__law_is_name : Stmt := top 56
abbrev s__law_name : Stmt := top 57
abbrev s__law_source : Stmt := top 47
abbrev s__law_cell : Stmt := top 51
abbrev s__law_guard : Stmt := top 50
abbrev s__law_statement : Stmt := top 52
abbrev s__law_kind_of : Stmt := top 54
abbrev s_check_array : Stmt := top 31
abbrev s_first_of : Stmt := top 18
abbrev s_lanes_of : Stmt := top 19
abbrev s_bezout : Stmt := top 21
abbrev s_meeting : Stmt := top 22
abbrev s_count_union : Stmt := top 40
abbrev s_accesses_in : Stmt := top 35
abbrev s_access_list : Stmt := top 36
abbrev s_cells_of : Stmt := top 38
abbrev s_written_rows : Stmt := top 39
abbrev s_count_written : Stmt := top 42
abbrev s_has : Stmt := top 20
abbrev s_is_written : Stmt := top 45
abbrev s_rows_below : Stmt := top 41
abbrev s_nth_written : Stmt := top 44
abbrev s_written_below : Stmt := top 43
abbrev s__law_told : Stmt := top 55
abbrev s_law : Stmt := top 58
/-! ### the mirrors -/
noncomputable def g__law_is_name : Stt → Fl :=
  (gSeq (gAsg (eC (.str "abcdefghijklmnopqrstuvwxyz")) (aName 1))
  (gSeq (gRet (eAn (eChain pLt pLt (eC (.int 0)) (eCallB pLen (aCons (eVar 0) aNil)) (eC (.int 9))) (eBin pEq (frz (oComp [2] (iTxt (eVar 0)) (aName 2) (tOf (eBin pNotInSg (eVar 2) (eVar 1))) (eVar 2))) (frz (oLst aNil)))))
  gNop))
noncomputable def m__law_is_name : List SV → List MO → FRes := mOf 3 g__law_is_name
noncomputable def g__law_name : Stt → Fl :=
  (gSeq (gAsg (eC (.str "abcdefghijklmnopqrstuvwxyz")) (aName 1))
  (gSeq (gRet (eJoin "" (frz (oComp [2] (iRangeW1 (aCons (eBin pAdd (eC (.int 1)) (eCall PM.m__law_draw (avN 2 (lSl 0 (lPv (eC (.int 8)) lNil))))) aNil)) (aName 2) tYesD (eBin pIx (eVar 1) (eCall PM.m__law_draw (avN 2 (lSl 0 (lPv (eC (.int 26)) lNil)))))))))
  gNop))
noncomputable def m__law_name : List SV → List MO → FRes := mOf 3 g__law_name
noncomputable def g__law_cell : Stt → Fl :=
  (gSeq (gRet (eTup (aCons (eBin pSub (eCall PM.m__law_draw (avN 2 (lSl 0 (lPv (eC (.int 6)) lNil)))) (eC (.int 2))) (aCons (eBin pSub (eCall PM.m__law_draw (avN 2 (lSl 0 (lPv (eC (.int 9)) lNil)))) (eC (.int 3))) aNil))))
  gNop)
noncomputable def m__law_cell : List SV → List MO → FRes := mOf 1 g__law_cell
noncomputable def g__law_guard : Stt → Fl :=
  (gSeq (gIf (tOf (eBin pEq (eCall PM.m__law_draw (avN 2 (lSl 0 (lPv (eC (.int 3)) lNil)))) (eC (.int 0))))
  (gSeq (gRet (eTup (aCons (eC (.int 0)) (aCons (eVar 1) (aCons (eC (.int 1)) (aCons (eC (.int 0)) aNil))))))
  gNop)
  gNop)
  (gSeq (gPar 2 3 (aCons (eCall PM.m__law_draw (avN 2 (lSl 0 (lPv (eBin pAdd (eVar 1) (eC (.int 1))) lNil)))) (aCons (eBin pAdd (eC (.int 1)) (eCall PM.m__law_draw (avN 2 (lSl 0 (lPv (eC (.int 5)) lNil))))) aNil)))
  (gSeq (gRet (eTup (aCons (eVar 2) (aCons (eBin pAdd (eVar 2) (eCall PM.m__law_draw (avN 2 (lSl 0 (lPv (eBin pAdd (eBin pSub (eVar 1) (eVar 2)) (eC (.int 1))) lNil))))) (aCons (eVar 3) (aCons (eCall PM.m__law_draw (avN 2 (lSl 0 (lPv (eVar 3) lNil)))) aNil))))))
  gNop)))
noncomputable def m__law_guard : List SV → List MO → FRes := mOf 4 g__law_guard
noncomputable def g__law_statement : Stt → Fl :=
  (gSeq (gAsg (eTup (aCons (eCall m__law_cell (avN 1 (lSl 0 lNil))) (aCons (eCall m__law_guard (avN 2 (lSl 0 (lPv (eVar 1) lNil)))) aNil))) (aTup 2 (asCons (aTup 2 (asCons (aName 3) (asCons (aName 4) asNil))) (asCons (aName 5) asNil))))
  (gSeq (gAsg (eBin pIx (eVar 2) (eCall PM.m__law_draw (avN 2 (lSl 0 (lPv (eCallB pLen (aCons (eVar 2) aNil)) lNil))))) (aName 6))
  (gSeq (gAsg (frz (oComp [11] (iRangeW1 (aCons (eC (.int 2)) aNil)) (aName 11) tYesD (eBin pIx (eVar 2) (eCall PM.m__law_draw (avN 2 (lSl 0 (lPv (eCallB pLen (aCons (eVar 2) aNil)) lNil))))))) (aName 7))
  (gSeq (gPar 8 9 (aCons (eCall m__law_cell (avN 1 (lSl 0 lNil))) (aCons (eCall m__law_cell (avN 1 (lSl 0 lNil))) aNil)))
  (gSeq (gAsg (eCall PM.m__law_draw (avN 2 (lSl 0 (lPv (eC (.int 5)) lNil)))) (aName 10))
  (gSeq (gIf (tOf (eBin pLt (eVar 10) (eC (.int 3))))
  (gSeq (gRet (eTup (aCons (eC (.str "put")) (aCons (eVar 5) (aCons (eVar 6) (aCons (eVar 3) (aCons (eVar 4) (aCons (eBin pSub (eCall PM.m__law_draw (avN 2 (lSl 0 (lPv (eC (.int 4)) lNil)))) (eC (.int 1))) (aCons (eBin pSub (eCall PM.m__law_draw (avN 2 (lSl 0 (lPv (eC (.int 6)) lNil)))) (eC (.int 2))) aNil)))))))))
  gNop)
  gNop)
  (gSeq (gIf (tOf (eBin pEq (eVar 10) (eC (.int 3))))
  (gSeq (gRet (eTup (aCons (eC (.str "move")) (aCons (eVar 5) (aCons (eVar 6) (aCons (eVar 3) (aCons (eVar 4) (aCons (eBin pIx (eVar 7) (eC (.int 0))) (aCons (eBin pIx (eVar 8) (eC (.int 0))) (aCons (eBin pIx (eVar 8) (eC (.int 1))) (aCons (eBin pSub (eCall PM.m__law_draw (avN 2 (lSl 0 (lPv (eC (.int 5)) lNil)))) (eC (.int 2))) aNil)))))))))))
  gNop)
  gNop)
  (gSeq (gRet (eTup (aCons (eC (.str "sum")) (aCons (eVar 5) (aCons (eVar 6) (aCons (eVar 3) (aCons (eVar 4) (aCons (eBin pIx (eVar 7) (eC (.int 0))) (aCons (eBin pIx (eVar 8) (eC (.int 0))) (aCons (eBin pIx (eVar 8) (eC (.int 1))) (aCons (eBin pIx (eVar 7) (eC (.int 1))) (aCons (eBin pIx (eVar 9) (eC (.int 0))) (aCons (eBin pIx (eVar 9) (eC (.int 1))) aNil)))))))))))))
  gNop))))))))
noncomputable def m__law_statement : List SV → List MO → FRes := mOf 12 g__law_statement
noncomputable def g__law_kind_of : Stt → Fl :=
  (gSeq (gAsg (frz (oLst (aCons (eTup (aCons (eC (.str "InvalidGuard")) (aCons (eIsX ["InvalidGuard"] (eVar 0)) aNil))) (aCons (eTup (aCons (eC (.str "InvalidLanes")) (aCons (eIsX ["InvalidLanes"] (eVar 0)) aNil))) aNil)))) (aName 1))
  (gSeq (gAsg (eBin pAdd (eVar 1) (frz (oLst (aCons (eTup (aCons (eC (.str "InvalidStatement")) (aCons (eIsX ["InvalidStatement"] (eVar 0)) aNil))) aNil)))) (aName 1))
  (gSeq (gAsg (eBin pAdd (eVar 1) (frz (oLst (aCons (eTup (aCons (eC (.str "InvalidBarrier")) (aCons (eIsX ["InvalidBarrier"] (eVar 0)) aNil))) aNil)))) (aName 1))
  (gSeq (gAsg (eBin pAdd (eVar 1) (frz (oLst (aCons (eTup (aCons (eC (.str "InvalidAccess")) (aCons (eIsX ["InvalidAccess"] (eVar 0)) aNil))) aNil)))) (aName 1))
  (gSeq (gAsg (eBin pAdd (eVar 1) (frz (oLst (aCons (eTup (aCons (eC (.str "InvalidNumber")) (aCons (eIsX ["InvalidNumber"] (eVar 0)) aNil))) aNil)))) (aName 1))
  (gSeq (gAsg (eBin pAdd (eVar 1) (frz (oLst (aCons (eTup (aCons (eC (.str "InvalidArray")) (aCons (eIsX ["InvalidArray"] (eVar 0)) aNil))) (aCons (eTup (aCons (eC (.str "NotPlain")) (aCons (eIsX ["NotPlain"] (eVar 0)) aNil))) aNil))))) (aName 1))
  (gSeq (gAsg (eBin pAdd (eVar 1) (frz (oLst (aCons (eTup (aCons (eC (.str "InvalidSchedule")) (aCons (eIsX ["InvalidSchedule"] (eVar 0)) aNil))) (aCons (eTup (aCons (eC (.str "Racing")) (aCons (eIsX ["Racing"] (eVar 0)) aNil))) aNil))))) (aName 1))
  (gSeq (gAsg (eBin pAdd (eVar 1) (frz (oLst (aCons (eTup (aCons (eC (.str "UnlikeLanes")) (aCons (eIsX ["UnlikeLanes"] (eVar 0)) aNil))) (aCons (eTup (aCons (eC (.str "Unreadable")) (aCons (eIsX ["Unreadable"] (eVar 0)) aNil))) aNil))))) (aName 1))
  (gSeq (gAsg (eBin pAdd (eVar 1) (frz (oLst (aCons (eTup (aCons (eC (.str "NothingToUndo")) (aCons (eIsX ["NothingToUndo"] (eVar 0)) aNil))) aNil)))) (aName 1))
  (gSeq (gAsg (frz (oComp [3, 4] (iSeq (eVar 1)) (aTup 2 (asCons (aName 3) (asCons (aName 4) asNil))) (tTru (eVar 4)) (eVar 3))) (aName 2))
  (gSeq (gIf (tOrr (tOf (eBin pNe (eCallB pLen (aCons (eVar 2) aNil)) (eC (.int 1)))) (tOrr (tNt (tTru (eIsX ["StrideError"] (eVar 0)))) (tNt (tTru (eIsX ["ValueError"] (eVar 0))))))
  (gSeq (gRet (eTup (aCons (eC (.str "several")) (aCons (eVar 2) aNil))))
  gNop)
  gNop)
  (gSeq (gRet (eTup (aCons (eBin pIx (eVar 2) (eC (.int 0))) (aCons (eXv (eVar 0)) aNil))))
  gNop))))))))))))
noncomputable def m__law_kind_of : List SV → List MO → FRes := mOf 5 g__law_kind_of
noncomputable def g__law_told : Stt → Fl :=
  (gSeq (PLH.gTryR 4 m__law_kind_of
  (gSeq (gIf (tOf (eBin pEq (eVar 0) (eC (.int 0))))
  (gSeq (gDrop (eCall PM.m_count_written (avN 2 (lPv (eVar 1) (lPv (eVar 2) lNil)))))
  gNop)
  (gSeq (gIf (tOf (eBin pEq (eVar 0) (eC (.int 1))))
  (gSeq (gDrop (eCall PM.m_written_below (avN 3 (lPv (eVar 1) (lPv (eVar 2) (lPv (eVar 3) lNil))))))
  gNop)
  (gSeq (gIf (tOf (eBin pEq (eVar 0) (eC (.int 2))))
  (gSeq (gDrop (eCall PM.m_is_written (avN 3 (lPv (eVar 1) (lPv (eVar 2) (lPv (eVar 3) lNil))))))
  gNop)
  (gSeq (gDrop (eCall PM.m_nth_written (avN 3 (lPv (eVar 1) (lPv (eVar 2) (lPv (eVar 3) lNil))))))
  gNop))
  gNop))
  gNop))
  gNop))
  (gSeq (gRet (eC .non))
  gNop))
noncomputable def m__law_told : List SV → List MO → FRes := mOf 5 g__law_told
noncomputable def g_law : Stt → Fl :=
  (gSeq (gAsgO 1 (oCall PM.m__law_source (avN 1 (lPv (eVar 0) lNil))))
  (gSeq (gFor (iRangeW1 (aCons (eBin pAdd (eC (.int 4)) (eCallB pMin2 (aCons (eC (.int 8)) (aCons (eCallB pLen (aCons (eVar 0) aNil)) aNil)))) aNil)) (aName 2)
  (gSeq (gAsg (eTup (aCons (eBin pAdd (eC (.int 1)) (eCall PM.m__law_draw (avN 2 (lSl 1 (lPv (eC (.int 9)) lNil))))) (aCons (eCall PM.m__law_draw (avN 2 (lSl 1 (lPv (eC (.int 4)) lNil)))) aNil))) (aTup 2 (asCons (aName 3) (asCons (aName 4) asNil))))
  (gSeq (gAsg (eCall m__law_name (avN 1 (lSl 1 lNil))) (aName 5))
  (gSeq (gAsg (eMake "Kernel" PM.m_Kernel___init__ 4 [.tup []] (aCons (eVar 3) (aCons (frz (oComp [11] (iRangeW1 (aCons (eVar 4) aNil)) (aName 11) tYesD (eCall m__law_statement (avN 3 (lSl 1 (lPv (eVar 3) (lPv (frz (oLst (aCons (eC (.str "x")) (aCons (eVar 5) aNil)))) lNil))))))) aNil))) (aName 6))
  (gSeq (gAsg (frz (oLst (aCons (eC (.str "x")) (aCons (eVar 5) (aCons (eCall m__law_name (avN 1 (lSl 1 lNil))) (aCons (eC (.str "longname")) (aCons (eC (.str "")) (aCons (eC (.str "X")) (aCons (eC (.str "x1")) (aCons (eC (.str "abcdefghi")) (aCons (eC (.str "x y")) (aCons (eC (.str "a-b")) aNil)))))))))))) (aName 7))
  (gSeq (gAsg (eBin pIx (eVar 7) (eCall PM.m__law_draw (avN 2 (lSl 1 (lPv (eC (.int 10)) lNil))))) (aName 8))
  (gSeq (gAsg (eBin pIx (frz (oLst (aCons (eCall PM.m__law_draw (avN 2 (lSl 1 (lPv (eC (.int 12)) lNil)))) (aCons (eUn pNeg (eC (.int 1))) (aCons (eBin pPow (eC (.int 10)) (eC (.int 30))) (aCons (eBin pSub (eC (.int 0)) (eBin pPow (eC (.int 10)) (eC (.int 30)))) aNil)))))) (eCall PM.m__law_draw (avN 2 (lSl 1 (lPv (eC (.int 4)) lNil))))) (aName 9))
  (gSeq (gAsg (eIf (tTru (eCall m__law_is_name (avN 1 (lPv (eVar 8) lNil)))) (eC .non) (eTup (aCons (eC (.str "InvalidArray")) (aCons (eVar 8) aNil)))) (aName 10))
  (gSeq (gIf (tOf (eBin pNe (frz (oComp [12] (iRangeW1 (aCons (eC (.int 3)) aNil)) (aName 12) tYesD (eCall m__law_told (avN 4 (lPv (eVar 12) (lPv (eVar 6) (lPv (eVar 8) (lPv (eVar 9) lNil)))))))) (eBin pMul (frz (oLst (aCons (eVar 10) aNil))) (eC (.int 3)))))
  (gSeq (gRet (eC (.bl false)))
  gNop)
  gNop)
  (gSeq (gIf (tAn (tOf (eBin pIs (eVar 10) (eC .non))) (tNt (tOf (eChain pLe pLt (eC (.int 0)) (eVar 9) (eCall PM.m_count_written (avN 2 (lPv (eVar 6) (lPv (eVar 8) lNil))))))))
  (gSeq (gAsg (eTup (aCons (eC (.str "InvalidNumber")) (aCons (eVar 9) aNil))) (aName 10))
  gNop)
  gNop)
  (gSeq (gIf (tOf (eBin pNe (eCall m__law_told (avN 4 (lPv (eC (.int 3)) (lPv (eVar 6) (lPv (eVar 8) (lPv (eVar 9) lNil)))))) (eVar 10)))
  (gSeq (gRet (eC (.bl false)))
  gNop)
  gNop)
  gNop)))))))))))
  (gSeq (gRet (eBin pEq (eCall m__law_told (avN 4 (lPv (eC (.int 3)) (lPv (eMake "Kernel" PM.m_Kernel___init__ 4 [.tup []] (aCons (eC (.int 2)) (aCons (frz (oLst aNil)) aNil))) (lPv (eC (.str "x")) (lPv (eC (.int 0)) lNil)))))) (eTup (aCons (eC (.str "InvalidNumber")) (aCons (eC (.int 0)) aNil)))))
  gNop)))
noncomputable def m_law : List SV → List MO → FRes := mOf 13 g_law
/-! ### what the top has left -/
structure Txt (P : Program) (w : World) (K : PySem.W.Frag) (mg : Str → Option Value) (cl : Str → Addr) where
  a_check_barriers : Addr
  fd_check_barriers : FuncData
  F_check_barriers : Fun K "check_barriers" "check_barriers" s_check_barriers a_check_barriers fd_check_barriers
  b_check_barriers : Binds K fd_check_barriers ["barriers", "size"] []
  mg_check_barriers : mg "check_barriers" = some (.ref a_check_barriers)
  a_is_array : Addr
  fd_is_array : FuncData
  F_is_array : Fun K "is_array" "is_array" s_is_array a_is_array fd_is_array
  b_is_array : Binds K fd_is_array ["name"] []
  mg_is_array : mg "is_array" = some (.ref a_is_array)
  a_is_guard : Addr
  fd_is_guard : FuncData
  F_is_guard : Fun K "is_guard" "is_guard" s_is_guard a_is_guard fd_is_guard
  b_is_guard : Binds K fd_is_guard ["guard"] []
  mg_is_guard : mg "is_guard" = some (.ref a_is_guard)
  a_is_statement : Addr
  fd_is_statement : FuncData
  F_is_statement : Fun K "is_statement" "is_statement" s_is_statement a_is_statement fd_is_statement
  b_is_statement : Binds K fd_is_statement ["statement", "lanes"] []
  mg_is_statement : mg "is_statement" = some (.ref a_is_statement)
  a_Kernel___init__ : Addr
  fd_Kernel___init__ : FuncData
  F_Kernel___init__ : FunX K "__init__" "Kernel.__init__" s_Kernel___init__ a_Kernel___init__ fd_Kernel___init__
  bd_Kernel___init__ : ∃ u, Binds K fd_Kernel___init__ ["self", "lanes", "statements", "barriers"] [u] ∧ KvV K u (.tup [])
  a__law_draw : Addr
  fd__law_draw : FuncData
  F__law_draw : Fun K "_law_draw" "_law_draw" s__law_draw a__law_draw fd__law_draw
  b__law_draw : Binds K fd__law_draw ["source", "many"] []
  mg__law_draw : mg "_law_draw" = some (.ref a__law_draw)
  a__law_is_name : Addr
  fd__law_is_name : FuncData
  F__law_is_name : Fun K "_law_is_name" "_law_is_name" s__law_is_name a__law_is_name fd__law_is_name
  b__law_is_name : Binds K fd__law_is_name ["name"] []
  mg__law_is_name : mg "_law_is_name" = some (.ref a__law_is_name)
  a__law_name : Addr
  fd__law_name : FuncData
  F__law_name : Fun K "_law_name" "_law_name" s__law_name a__law_name fd__law_name
  b__law_name : Binds K fd__law_name ["source"] []
  mg__law_name : mg "_law_name" = some (.ref a__law_name)
  a__law_source : Addr
  fd__law_source : FuncData
  F__law_source : Fun K "_law_source" "_law_source" s__law_source a__law_source fd__law_source
  b__law_source : Binds K fd__law_source ["script"] []
  mg__law_source : mg "_law_source" = some (.ref a__law_source)
  a__law_cell : Addr
  fd__law_cell : FuncData
  F__law_cell : Fun K "_law_cell" "_law_cell" s__law_cell a__law_cell fd__law_cell
  b__law_cell : Binds K fd__law_cell ["source"] []
  mg__law_cell : mg "_law_cell" = some (.ref a__law_cell)
  a__law_guard : Addr
  fd__law_guard : FuncData
  F__law_guard : Fun K "_law_guard" "_law_guard" s__law_guard a__law_guard fd__law_guard
  b__law_guard : Binds K fd__law_guard ["source", "many"] []
  mg__law_guard : mg "_law_guard" = some (.ref a__law_guard)
  a__law_statement : Addr
  fd__law_statement : FuncData
  F__law_statement : Fun K "_law_statement" "_law_statement" s__law_statement a__law_statement fd__law_statement
  b__law_statement : Binds K fd__law_statement ["source", "many", "names_here"] []
  mg__law_statement : mg "_law_statement" = some (.ref a__law_statement)
  a__law_kind_of : Addr
  fd__law_kind_of : FuncData
  F__law_kind_of : Fun K "_law_kind_of" "_law_kind_of" s__law_kind_of a__law_kind_of fd__law_kind_of
  b__law_kind_of : Binds K fd__law_kind_of ["problem"] []
  mg__law_kind_of : mg "_law_kind_of" = some (.ref a__law_kind_of)
  a_check_array : Addr
  fd_check_array : FuncData
  F_check_array : Fun K "check_array" "check_array" s_check_array a_check_array fd_check_array
  b_check_array : Binds K fd_check_array ["name"] []
  mg_check_array : mg "check_array" = some (.ref a_check_array)
  a_first_of : Addr
  fd_first_of : FuncData
  F_first_of : Fun K "first_of" "first_of" s_first_of a_first_of fd_first_of
  b_first_of : Binds K fd_first_of ["guard"] []
  mg_first_of : mg "first_of" = some (.ref a_first_of)
  a_lanes_of : Addr
  fd_lanes_of : FuncData
  F_lanes_of : Fun K "lanes_of" "lanes_of" s_lanes_of a_lanes_of fd_lanes_of
  b_lanes_of : Binds K fd_lanes_of ["guard"] []
  mg_lanes_of : mg "lanes_of" = some (.ref a_lanes_of)
  a_bezout : Addr
  fd_bezout : FuncData
  F_bezout : Fun K "bezout" "bezout" s_bezout a_bezout fd_bezout
  b_bezout : Binds K fd_bezout ["one", "other"] []
  mg_bezout : mg "bezout" = some (.ref a_bezout)
  a_meeting : Addr
  fd_meeting : FuncData
  F_meeting : Fun K "meeting" "meeting" s_meeting a_meeting fd_meeting
  b_meeting : Binds K fd_meeting ["guard", "other"] []
  mg_meeting : mg "meeting" = some (.ref a_meeting)
  a_count_union : Addr
  fd_count_union : FuncData
  F_count_union : Fun K "count_union" "count_union" s_count_union a_count_union fd_count_union
  b_count_union : Binds K fd_count_union ["rows"] []
  mg_count_union : mg "count_union" = some (.ref a_count_union)
  a_accesses_in : Addr
  fd_accesses_in : FuncData
  F_accesses_in : Fun K "accesses_in" "accesses_in" s_accesses_in a_accesses_in fd_accesses_in
  b_accesses_in : Binds K fd_accesses_in ["number", "statement"] []
  mg_accesses_in : mg "accesses_in" = some (.ref a_accesses_in)
  a_access_list : Addr
  fd_access_list : FuncData
  F_access_list : Fun K "access_list" "access_list" s_access_list a_access_list fd_access_list
  b_access_list : Binds K fd_access_list ["kernel"] []
  mg_access_list : mg "access_list" = some (.ref a_access_list)
  a_cells_of : Addr
  fd_cells_of : FuncData
  F_cells_of : Fun K "cells_of" "cells_of" s_cells_of a_cells_of fd_cells_of
  b_cells_of : Binds K fd_cells_of ["guard", "a", "b"] []
  mg_cells_of : mg "cells_of" = some (.ref a_cells_of)
  a_written_rows : Addr
  fd_written_rows : FuncData
  F_written_rows : Fun K "written_rows" "written_rows" s_written_rows a_written_rows fd_written_rows
  b_written_rows : Binds K fd_written_rows ["kernel", "array"] []
  mg_written_rows : mg "written_rows" = some (.ref a_written_rows)
  a_count_written : Addr
  fd_count_written : FuncData
  F_count_written : Fun K "count_written" "count_written" s_count_written a_count_written fd_count_written
  b_count_written : Binds K fd_count_written ["kernel", "array"] []
  mg_count_written : mg "count_written" = some (.ref a_count_written)
  a_has : Addr
  fd_has : FuncData
  F_has : Fun K "has" "has" s_has a_has fd_has
  b_has : Binds K fd_has ["guard", "lane"] []
  mg_has : mg "has" = some (.ref a_has)
  a_is_written : Addr
  fd_is_written : FuncData
  F_is_written : Fun K "is_written" "is_written" s_is_written a_is_written fd_is_written
  b_is_written : Binds K fd_is_written ["kernel", "array", "cell"] []
  mg_is_written : mg "is_written" = some (.ref a_is_written)
  a_rows_below : Addr
  fd_rows_below : FuncData
  F_rows_below : Fun K "rows_below" "rows_below" s_rows_below a_rows_below fd_rows_below
  b_rows_below : Binds K fd_rows_below ["rows", "cell"] []
  mg_rows_below : mg "rows_below" = some (.ref a_rows_below)
  a_nth_written : Addr
  fd_nth_written : FuncData
  F_nth_written : Fun K "nth_written" "nth_written" s_nth_written a_nth_written fd_nth_written
  b_nth_written : Binds K fd_nth_written ["kernel", "array", "number"] []
  mg_nth_written : mg "nth_written" = some (.ref a_nth_written)
  a_written_below : Addr
  fd_written_below : FuncData
  F_written_below : Fun K "written_below" "written_below" s_written_below a_written_below fd_written_below
  b_written_below : Binds K fd_written_below ["kernel", "array", "cell"] []
  mg_written_below : mg "written_below" = some (.ref a_written_below)
  a__law_told : Addr
  fd__law_told : FuncData
  F__law_told : Fun K "_law_told" "_law_told" s__law_told a__law_told fd__law_told
  b__law_told : Binds K fd__law_told ["pick", "one", "name", "spot"] []
  mg__law_told : mg "_law_told" = some (.ref a__law_told)
  a_law : Addr
  fd_law : FuncData
  F_law : Fun K "law" "law" s_law a_law fd_law
  b_law : Binds K fd_law ["script"] []
  mg_law : mg "law" = some (.ref a_law)
  z_ValueError : mg "ValueError" = none
  z_abs : mg "abs" = none
  z_all : mg "all" = none
  z_any : mg "any" = none
  z_enumerate : mg "enumerate" = none
  z_isinstance : mg "isinstance" = none
  z_len : mg "len" = none
  z_max : mg "max" = none
  z_min : mg "min" = none
  z_range : mg "range" = none
  z_tuple : mg "tuple" = none
  n_MOST_LETTERS : ∃ u, mg "MOST_LETTERS" = some u ∧ RelV (.int 8) u
  n_LETTERS : ∃ u, mg "LETTERS" = some u ∧ RelV (.str "abcdefghijklmnopqrstuvwxyz") u
  n_READ : ∃ u, mg "READ" = some u ∧ RelV (.str "read") u
  n_WRITE : ∃ u, mg "WRITE" = some u ∧ RelV (.str "write") u
  mg_Kernel : mg "Kernel" = some (.ref (cl "Kernel"))
  k_Kernel : Cls K (cl "Kernel")
  mk_Kernel : Mk K (cl "Kernel") a_Kernel___init__
  na_Kernel_lane_count : NoAttr K (cl "Kernel") "lane_count"
  na_Kernel_kept_statements : NoAttr K (cl "Kernel") "kept_statements"
  na_Kernel_kept_barriers : NoAttr K (cl "Kernel") "kept_barriers"
  d_ITEMS : DctT w K mg "ITEMS" [("put", .int 7), ("move", .int 9), ("sum", .int 11)]
  d_PLACES : DctT w K mg "PLACES" [("put", .tup [.int 2]), ("move", .tup [.int 2, .int 5]), ("sum", .tup [.int 2, .int 5, .int 8])]
  xd_InvalidBarrier : Addr
  xf_InvalidBarrier : Addr
  x_InvalidBarrier : PXE.ErrTxt P K mg "InvalidBarrier" (cl "InvalidBarrier") xd_InvalidBarrier xf_InvalidBarrier
  xd_InvalidLanes : Addr
  xf_InvalidLanes : Addr
  x_InvalidLanes : PXE.ErrTxt P K mg "InvalidLanes" (cl "InvalidLanes") xd_InvalidLanes xf_InvalidLanes
  xd_InvalidStatement : Addr
  xf_InvalidStatement : Addr
  x_InvalidStatement : PXE.ErrTxt P K mg "InvalidStatement" (cl "InvalidStatement") xd_InvalidStatement xf_InvalidStatement
  xd_InvalidArray : Addr
  xf_InvalidArray : Addr
  x_InvalidArray : PXE.ErrTxt P K mg "InvalidArray" (cl "InvalidArray") xd_InvalidArray xf_InvalidArray
  xd_InvalidNumber : Addr
  xf_InvalidNumber : Addr
  x_InvalidNumber : PXE.ErrTxt P K mg "InvalidNumber" (cl "InvalidNumber") xd_InvalidNumber xf_InvalidNumber
  ge_InvalidGuard : mg "InvalidGuard" = some (.ref (cl "InvalidGuard"))
  ge_InvalidLanes : mg "InvalidLanes" = some (.ref (cl "InvalidLanes"))
  ge_InvalidStatement : mg "InvalidStatement" = some (.ref (cl "InvalidStatement"))
  ge_InvalidBarrier : mg "InvalidBarrier" = some (.ref (cl "InvalidBarrier"))
  ge_InvalidAccess : mg "InvalidAccess" = some (.ref (cl "InvalidAccess"))
  ge_InvalidNumber : mg "InvalidNumber" = some (.ref (cl "InvalidNumber"))
  ge_InvalidArray : mg "InvalidArray" = some (.ref (cl "InvalidArray"))
  ge_NotPlain : mg "NotPlain" = some (.ref (cl "NotPlain"))
  ge_InvalidSchedule : mg "InvalidSchedule" = some (.ref (cl "InvalidSchedule"))
  ge_Racing : mg "Racing" = some (.ref (cl "Racing"))
  ge_UnlikeLanes : mg "UnlikeLanes" = some (.ref (cl "UnlikeLanes"))
  ge_Unreadable : mg "Unreadable" = some (.ref (cl "Unreadable"))
  ge_NothingToUndo : mg "NothingToUndo" = some (.ref (cl "NothingToUndo"))
  ge_StrideError : mg "StrideError" = some (.ref (cl "StrideError"))
  xk : PL.ErrK K cl
section
variable {P : Program} {w : World} {K : PySem.W.Frag} {mg : Str → Option Value} {base : Heap} {cl : Str → Addr}
theorem sc_check_barriers : FnScope ["barriers", "size", "before", "number", "barrier"] ["barriers", "size"] (defScope s_check_barriers) := ⟨rfl, rfl, rfl, by decide +kernel, rfl, by decide +kernel, by decide +kernel⟩
theorem ok_check_barriers (T : Txt P w K mg cl) : FnP P w K mg base cl 1 T.a_check_barriers T.fd_check_barriers ["barriers", "size"] PM.m_check_barriers :=
  fnp (N := ["barriers", "size", "before", "number", "barrier"]) (ps := ["barriers", "size"]) (k := 0) T.F_check_barriers sc_check_barriers rfl fun cdv A outer s H E C hK hcl hr bd => by
    subst hcl
    have nd := sc_check_barriers.nd
    have hu64 := hr.units
    have hu65 : (A.deeper (envOfC "check_barriers" (defScope s_check_barriers) s.heap.objs.size T.a_check_barriers cdv)).units + 65 < cLine := by have := hr.un; omega
    exact (dss_cons (ds_set (i := 2) nd rfl (Or.inl rfl) dv_int)
      (dss_cons (ds_for bd.own bd.calm (di_enumQ hK.symm rfl T.z_enumerate (da_cons (dv_var 0) da_nil)) (dg_tup (n := 2) hK.symm bd.calm (dgs_cons (dg_name (i := 3) nd rfl (Or.inl rfl)) (dgs_cons (dg_name (i := 4) nd rfl (Or.inl rfl)) dgs_nil)))
      (dss_cons (ds_if (dt_not (dt_chain op_lt op_lt d_lt d_lt (dv_var 2) (dv_var 4) (dv_var 1)))
      (dss_cons (ds_raise bd.calm T.x_InvalidBarrier hr bd.tk rfl (dv_var 3))
      dss_nil)
      dss_nil)
      (dss_cons (ds_set (i := 2) nd rfl (Or.inl rfl) (dv_var 4))
      dss_nil)))
      dss_nil))
theorem sc_is_array : FnScope ["name", "letter"] ["name"] (defScope s_is_array) := ⟨rfl, rfl, rfl, by decide +kernel, rfl, by decide +kernel, by decide +kernel⟩
theorem ok_is_array (T : Txt P w K mg cl) : FnP P w K mg base cl 1 T.a_is_array T.fd_is_array ["name"] PM.m_is_array :=
  fnp (N := ["name", "letter"]) (ps := ["name"]) (k := 0) T.F_is_array sc_is_array rfl fun cdv A outer s H E C hK hcl hr bd => by
    subst hcl
    have nd := sc_is_array.nd
    have hu64 := hr.units
    have hu65 : (A.deeper (envOfC "is_array" (defScope s_is_array) s.heap.objs.size T.a_is_array cdv)).units + 65 < cLine := by have := hr.un; omega
    exact (dss_cons (ds_ret (dv_and hK.symm (dv_chain op_le op_le d_le d_le dv_int (dv_callB call_len (c_len hK.symm) rfl T.z_len (by decide +kernel) (da_cons (dv_var 0) da_nil)) (dv_gint rfl T.n_MOST_LETTERS)) (dv_one (dv_callB (cr_all bd.calm) (c_all hK.symm) rfl T.z_all (by decide +kernel) (da_cons (dv_frz (do_lc (own := [("letter", 1)]) bd.calm nd (blkOk_by (N := ["name", "letter"]) (sc := defScope s_is_array) (by decide +kernel)) (di_txt (dv_var 0)) (fun _ _ _ _ _ => by exact (dg_name (i := 1) nd rfl (by first | exact Or.inl rfl | exact Or.inr rfl) (hv := by rfl))) (fun _ _ _ _ _ => by exact dts_nil) (fun _ _ _ _ _ => by exact (dv_cmp op_in_sign d_inSg (dv_var 1) (dv_gstr rfl T.n_LETTERS) (by rfl))))) da_nil)))))
      dss_nil)
theorem sc_is_guard : FnScope ["guard", "low", "high", "step", "rest"] ["guard"] (defScope s_is_guard) := ⟨rfl, rfl, rfl, by decide +kernel, rfl, by decide +kernel, by decide +kernel⟩
theorem ok_is_guard (T : Txt P w K mg cl) : FnP P w K mg base cl 1 T.a_is_guard T.fd_is_guard ["guard"] PM.m_is_guard :=
  fnp (N := ["guard", "low", "high", "step", "rest"]) (ps := ["guard"]) (k := 0) T.F_is_guard sc_is_guard rfl fun cdv A outer s H E C hK hcl hr bd => by
    subst hcl
    have nd := sc_is_guard.nd
    have hu64 := hr.units
    have hu65 : (A.deeper (envOfC "is_guard" (defScope s_is_guard) s.heap.objs.size T.a_is_guard cdv)).units + 65 < cLine := by have := hr.un; omega
    exact (dss_cons (ds_asg (dv_var 0) (dg_tup (n := 4) hK.symm bd.calm (dgs_cons (dg_name (i := 1) nd rfl (Or.inl rfl)) (dgs_cons (dg_name (i := 2) nd rfl (Or.inl rfl)) (dgs_cons (dg_name (i := 3) nd rfl (Or.inl rfl)) (dgs_cons (dg_name (i := 4) nd rfl (Or.inl rfl)) dgs_nil))))))
      (dss_cons (ds_ret (dv_and hK.symm (dv_chain op_le op_le d_le d_le dv_int (dv_var 1) (dv_var 2)) (dv_one (dv_chain op_le op_lt d_le d_lt dv_int (dv_var 4) (dv_var 3)))))
      dss_nil))
theorem sc_is_statement : FnScope ["statement", "lanes", "place"] ["statement", "lanes"] (defScope s_is_statement) := ⟨rfl, rfl, rfl, by decide +kernel, rfl, by decide +kernel, by decide +kernel⟩
theorem ok_is_statement (T : Txt P w K mg cl) : FnP P w K mg base cl 2 T.a_is_statement T.fd_is_statement ["statement", "lanes"] PM.m_is_statement :=
  fnp (N := ["statement", "lanes", "place"]) (ps := ["statement", "lanes"]) (k := 1) T.F_is_statement sc_is_statement rfl fun cdv A outer s H E C hK hcl hr bd => by
    subst hcl
    have nd := sc_is_statement.nd
    have hu64 := hr.units
    have hu65 : (A.deeper (envOfC "is_statement" (defScope s_is_statement) s.heap.objs.size T.a_is_statement cdv)).units + 65 < cLine := by have := hr.un; omega
    exact (dss_cons (ds_if (dt_cmp (op_neD hu64) (d_ne hK.symm) (dv_dget hK.symm T.d_ITEMS (dv_ix hK.symm (dv_var 0) dv_int (fun _ _ => rfl)) ⟨rfl, rfl, rfl, rfl⟩) (dv_callB call_len (c_len hK.symm) rfl T.z_len (by decide +kernel) (da_cons (dv_var 0) da_nil)) (by rfl))
      (dss_cons (ds_ret dv_bl)
      dss_nil)
      dss_nil)
      (dss_cons (ds_if (dt_not (dt_tru hK.symm (dv_callB (cr_all bd.calm) (c_all hK.symm) rfl T.z_all (by decide +kernel) (da_cons (dv_frz (do_lc (own := [("place", 2)]) bd.calm nd (blkOk_by (N := ["statement", "lanes", "place"]) (sc := defScope s_is_statement) (by decide +kernel)) (di_any hK.symm (dv_dct hK.symm T.d_PLACES (dv_ix hK.symm (dv_var 0) dv_int (fun _ _ => rfl)) (fun _ _ => rfl))) (fun _ _ _ _ _ => by exact (dg_name (i := 2) nd rfl (by first | exact Or.inl rfl | exact Or.inr rfl) (hv := by rfl))) (fun _ _ _ _ _ => by exact dts_nil) (fun _ _ _ _ _ => by exact (dv_call (ok_is_array T) (by exact (L2.Room.mono (j := 1) hr (by decide))) (by exact bd.gu) takesN hK.symm T.mg_is_array T.F_is_array.kp T.b_is_array (dl_pv (dv_ix hK.symm (dv_var 0) (dv_var 2) (fun _ _ => rfl)) dl_nil))))) da_nil))))
      (dss_cons (ds_ret dv_bl)
      dss_nil)
      dss_nil)
      (dss_cons (ds_ret (dv_and hK.symm (dv_call (ok_is_guard T) (L2.Room.mono (j := 1) hr (by decide)) bd.gu bd.tk hK.symm T.mg_is_guard T.F_is_guard.kp T.b_is_guard (dl_pv (dv_ix hK.symm (dv_var 0) dv_int (fun _ _ => rfl)) dl_nil)) (dv_one (dv_cmp op_le d_le (dv_ix hK.symm (dv_ix hK.symm (dv_var 0) dv_int (fun _ _ => rfl)) dv_int (fun _ _ => rfl)) (dv_var 1) (by rfl)))))
      dss_nil)))
theorem sc_Kernel___init__ : FnScope ["self", "lanes", "statements", "barriers", "number", "statement"] ["self", "lanes", "statements", "barriers"] (defScope s_Kernel___init__) := ⟨rfl, rfl, rfl, by decide +kernel, rfl, by decide +kernel, by decide +kernel⟩
theorem ok_Kernel___init__ (T : Txt P w K mg cl) : FnP P w K mg base cl 3 T.a_Kernel___init__ T.fd_Kernel___init__ ["self", "lanes", "statements", "barriers"] PM.m_Kernel___init__ :=
  fnpX (N := ["self", "lanes", "statements", "barriers", "number", "statement"]) (ps := ["self", "lanes", "statements", "barriers"]) (k := 2) T.F_Kernel___init__ sc_Kernel___init__ rfl fun cdv A outer s H E C hK hcl hr bd => by
    subst hcl
    have nd := sc_Kernel___init__.nd
    have hu64 := hr.units
    have hu65 : (A.deeper (envOfC "Kernel.__init__" (defScope s_Kernel___init__) s.heap.objs.size T.a_Kernel___init__ cdv)).units + 65 < cLine := by have := hr.un; omega
    exact (dss_cons (ds_if (dt_cmp op_lt d_lt (dv_var 1) dv_int (by rfl))
      (dss_cons (ds_raise bd.calm T.x_InvalidLanes hr bd.tk rfl (dv_var 1))
      dss_nil)
      dss_nil)
      (dss_cons (ds_for bd.own bd.calm (di_enumQ hK.symm rfl T.z_enumerate (da_cons (dv_var 2) da_nil)) (dg_tup (n := 2) hK.symm bd.calm (dgs_cons (dg_name (i := 4) nd rfl (Or.inl rfl)) (dgs_cons (dg_name (i := 5) nd rfl (Or.inl rfl)) dgs_nil)))
      (dss_cons (ds_if (dt_not (dt_tru hK.symm (dv_call (ok_is_statement T) (L2.Room.mono (j := 2) hr (by decide)) bd.gu bd.tk hK.symm T.mg_is_statement T.F_is_statement.kp T.b_is_statement (dl_pv (dv_var 5) (dl_pv (dv_var 1) dl_nil)))))
      (dss_cons (ds_raise bd.calm T.x_InvalidStatement hr bd.tk rfl (dv_var 4))
      dss_nil)
      dss_nil)
      dss_nil))
      (dss_cons (ds_expr (dv_call (ok_check_barriers T) (L2.Room.mono (j := 1) hr (by decide)) bd.gu bd.tk hK.symm T.mg_check_barriers T.F_check_barriers.kp T.b_check_barriers (dl_pv (dv_var 3) (dl_pv (dv_callB call_len (c_len hK.symm) rfl T.z_len (by decide +kernel) (da_cons (dv_var 2) da_nil)) dl_nil))))
      (dss_cons (ds_setFld 0 "Kernel" "lane_count" (dv_var 1) T.k_Kernel T.na_Kernel_lane_count)
      (dss_cons (ds_setFld 0 "Kernel" "kept_statements" (dv_tupV hK.symm (dv_var 2) rfl T.z_tuple) T.k_Kernel T.na_Kernel_kept_statements)
      (dss_cons (ds_setFld 0 "Kernel" "kept_barriers" (dv_tupV hK.symm (dv_var 3) rfl T.z_tuple) T.k_Kernel T.na_Kernel_kept_barriers)
      dss_nil))))))
theorem sc__law_draw : FnScope ["source", "many", "drawn", "mixed"] ["source", "many"] (defScope s__law_draw) := ⟨rfl, rfl, rfl, by decide +kernel, rfl, by decide +kernel, by decide +kernel⟩
theorem ok__law_draw (T : Txt P w K mg cl) : FnP P w K mg base cl 1 T.a__law_draw T.fd__law_draw ["source", "many"] PM.m__law_draw :=
  fnp (N := ["source", "many", "drawn", "mixed"]) (ps := ["source", "many"]) (k := 0) T.F__law_draw sc__law_draw rfl fun cdv A outer s H E C hK hcl hr bd => by
    subst hcl
    have nd := sc__law_draw.nd
    have hu64 := hr.units
    have hu65 : (A.deeper (envOfC "_law_draw" (defScope s__law_draw) s.heap.objs.size T.a__law_draw cdv)).units + 65 < cLine := by have := hr.un; omega
    exact (dss_cons (ds_if (dt_cmp op_gt d_gt (dv_ixM 0 dv_int (fun _ _ => rfl)) dv_int (by rfl))
      (dss_cons (ds_set (i := 2) nd rfl (Or.inl rfl) (dv_op op_modN d_mod (dv_ixM 0 dv_int (fun _ _ => rfl)) (dv_var 1)))
      (dss_cons (ds_setIx 0 (dv_op op_fdivA d_fdiv (dv_ixM 0 dv_int (fun _ _ => rfl)) (dv_var 1)) dv_int)
      (dss_cons (ds_ret (dv_var 2))
      dss_nil)))
      dss_nil)
      (dss_cons (ds_setIx 0 (dv_op op_addA (d_add hK.symm) (dv_ixM 0 dv_int (fun _ _ => rfl)) dv_int) dv_int)
      (dss_cons (ds_set (i := 3) nd rfl (Or.inl rfl) (dv_op op_modN d_mod (dv_op op_powA d_pow (dv_op op_addA (d_add hK.symm) (dv_ixM 0 dv_int (fun _ _ => rfl)) (dv_op op_mulA d_mul dv_int (dv_ixM 0 dv_int (fun _ _ => rfl)))) dv_int) dv_int))
      (dss_cons (ds_set (i := 3) nd rfl (Or.inl rfl) (dv_op op_modN d_mod (dv_op op_powA d_pow (dv_op op_addA (d_add hK.symm) (dv_var 3) (dv_op op_mulA d_mul dv_int (dv_ixM 0 dv_int (fun _ _ => rfl)))) dv_int) dv_int))
      (dss_cons (ds_ret (dv_op op_modN d_mod (dv_op op_fdivA d_fdiv (dv_var 3) dv_int) (dv_var 1)))
      dss_nil)))))
theorem sc__law_is_name : FnScope ["name", "letters", "letter"] ["name"] (defScope s__law_is_name) := ⟨rfl, rfl, rfl, by decide +kernel, rfl, by decide +kernel, by decide +kernel⟩
theorem ok__law_is_name (T : Txt P w K mg cl) : FnP P w K mg base cl 1 T.a__law_is_name T.fd__law_is_name ["name"] m__law_is_name :=
  fnp (N := ["name", "letters", "letter"]) (ps := ["name"]) (k := 0) T.F__law_is_name sc__law_is_name rfl fun cdv A outer s H E C hK hcl hr bd => by
    subst hcl
    have nd := sc__law_is_name.nd
    have hu64 := hr.units
    have hu65 : (A.deeper (envOfC "_law_is_name" (defScope s__law_is_name) s.heap.objs.size T.a__law_is_name cdv)).units + 65 < cLine := by have := hr.un; omega
    exact (dss_cons (ds_set (i := 1) nd rfl (Or.inr rfl) dv_str)
      (dss_cons (ds_ret (dv_and hK.symm (dv_chain op_lt op_lt d_lt d_lt dv_int (dv_callB call_len (c_len hK.symm) rfl T.z_len (by decide +kernel) (da_cons (dv_var 0) da_nil)) dv_int) (dv_one (dv_cmp (op_eqD hu64) (d_eq hK.symm) (dv_frz (do_lc (own := [("letter", 2)]) bd.calm nd (blkOk_by (N := ["name", "letters", "letter"]) (sc := defScope s__law_is_name) (by decide +kernel)) (di_txt (dv_var 0)) (fun _ _ _ _ _ => by exact (dg_name (i := 2) nd rfl (by first | exact Or.inl rfl | exact Or.inr rfl) (hv := by rfl))) (fun _ _ _ _ _ => by exact (dts_one (dt_cmp op_notIn_sign d_notInSg (dv_var 2) (dv_var 1) (by rfl)))) (fun _ _ _ _ _ => by exact (dv_var 2)))) (dv_frz (do_lst da_nil)) (by rfl)))))
      dss_nil))
theorem sc__law_name : FnScope ["source", "letters", "more"] ["source"] (defScope s__law_name) := ⟨rfl, rfl, rfl, by decide +kernel, rfl, by decide +kernel, by decide +kernel⟩
theorem ok__law_name (T : Txt P w K mg cl) : FnP P w K mg base cl 2 T.a__law_name T.fd__law_name ["source"] m__law_name :=
  fnp (N := ["source", "letters", "more"]) (ps := ["source"]) (k := 1) T.F__law_name sc__law_name rfl fun cdv A outer s H E C hK hcl hr bd => by
    subst hcl
    have nd := sc__law_name.nd
    have hu64 := hr.units
    have hu65 : (A.deeper (envOfC "_law_name" (defScope s__law_name) s.heap.objs.size T.a__law_name cdv)).units + 65 < cLine := by have := hr.un; omega
    exact (dss_cons (ds_set (i := 1) nd rfl (Or.inr rfl) dv_str)
      (dss_cons (ds_ret (dv_join (dv_frz (do_lc (own := [("more", 2)]) bd.calm nd (blkOk_by (N := ["source", "letters", "more"]) (sc := defScope s__law_name) (by decide +kernel)) (di_rangeW1 rfl T.z_range (da_cons (dv_op op_addA (d_add hK.symm) dv_int (dv_call (ok__law_draw T) (L2.Room.mono (j := 1) hr (by decide)) bd.gu bd.tk hK.symm T.mg__law_draw T.F__law_draw.kp T.b__law_draw (dl_sl 0 (dl_pv dv_int dl_nil)))) da_nil)) (fun _ _ _ _ _ => by exact (dg_name (i := 2) nd rfl (by first | exact Or.inl rfl | exact Or.inr rfl) (hv := by rfl))) (fun _ _ _ _ _ => by exact dts_nil) (fun _ _ _ _ _ => by exact (dv_ix hK.symm (dv_var 1) (dv_call (ok__law_draw T) (by exact (L2.Room.mono (j := 1) hr (by decide))) (by exact bd.gu) takesN hK.symm T.mg__law_draw T.F__law_draw.kp T.b__law_draw (dl_sl 0 (dl_pv dv_int dl_nil))) (fun _ _ => rfl)))))))
      dss_nil))
theorem sc__law_source : FnScope ["script", "digits", "seed", "one"] ["script"] (defScope s__law_source) := ⟨rfl, rfl, rfl, by decide +kernel, rfl, by decide +kernel, by decide +kernel⟩
theorem ok__law_source (T : Txt P w K mg cl) : FnP P w K mg base cl 1 T.a__law_source T.fd__law_source ["script"] PM.m__law_source :=
  fnp (N := ["script", "digits", "seed", "one"]) (ps := ["script"]) (k := 0) T.F__law_source sc__law_source rfl fun cdv A outer s H E C hK hcl hr bd => by
    subst hcl
    have nd := sc__law_source.nd
    have hu64 := hr.units
    have hu65 : (A.deeper (envOfC "_law_source" (defScope s__law_source) s.heap.objs.size T.a__law_source cdv)).units + 65 < cLine := by have := hr.un; omega
    exact (dss_cons (ds_asg (dv_tup (da_cons dv_int (da_cons dv_int da_nil))) (dg_tup (n := 2) hK.symm bd.calm (dgs_cons (dg_name (i := 1) nd rfl (Or.inl rfl)) (dgs_cons (dg_name (i := 2) nd rfl (Or.inl rfl)) dgs_nil))))
      (dss_cons (ds_for bd.own bd.calm (di_any hK.symm (dv_sl hK.symm (dv_var 0) dp_none (dp_some dv_int))) (dg_name (i := 3) nd rfl (Or.inl rfl))
      (dss_cons (ds_if (dt_cmp op_ge d_ge (dv_callB call_abs c_abs rfl T.z_abs (by decide +kernel) (da_cons (dv_var 3) da_nil)) (dv_op op_powA d_pow dv_int dv_int) (by rfl))
      (dss_cons (ds_set (i := 1) nd rfl (Or.inl rfl) (dv_op op_addA (d_add hK.symm) (dv_op op_mulA d_mul (dv_var 1) (dv_op op_powA d_pow dv_int dv_int)) (dv_op op_modN d_mod (dv_callB call_abs c_abs rfl T.z_abs (by decide +kernel) (da_cons (dv_var 3) da_nil)) (dv_op op_powA d_pow dv_int dv_int))))
      dss_nil)
      dss_nil)
      (dss_cons (ds_set (i := 2) nd rfl (Or.inl rfl) (dv_op op_modN d_mod (dv_op op_addA (d_add hK.symm) (dv_op op_addA (d_add hK.symm) (dv_op op_mulA d_mul (dv_var 2) dv_int) (dv_op op_modN d_mod (dv_var 3) dv_int)) dv_int) dv_int))
      dss_nil)))
      (dss_cons (ds_retO (do_lst (da_cons (dv_var 1) (da_cons (dv_var 2) (da_cons dv_int da_nil)))))
      dss_nil)))
theorem sc__law_cell : FnScope ["source"] ["source"] (defScope s__law_cell) := ⟨rfl, rfl, rfl, by decide +kernel, rfl, by decide +kernel, by decide +kernel⟩
theorem ok__law_cell (T : Txt P w K mg cl) : FnP P w K mg base cl 2 T.a__law_cell T.fd__law_cell ["source"] m__law_cell :=
  fnp (N := ["source"]) (ps := ["source"]) (k := 1) T.F__law_cell sc__law_cell rfl fun cdv A outer s H E C hK hcl hr bd => by
    subst hcl
    have nd := sc__law_cell.nd
    have hu64 := hr.units
    have hu65 : (A.deeper (envOfC "_law_cell" (defScope s__law_cell) s.heap.objs.size T.a__law_cell cdv)).units + 65 < cLine := by have := hr.un; omega
    exact (dss_cons (ds_ret (dv_tup (da_cons (dv_op op_sub d_sub (dv_call (ok__law_draw T) (L2.Room.mono (j := 1) hr (by decide)) bd.gu bd.tk hK.symm T.mg__law_draw T.F__law_draw.kp T.b__law_draw (dl_sl 0 (dl_pv dv_int dl_nil))) dv_int) (da_cons (dv_op op_sub d_sub (dv_call (ok__law_draw T) (L2.Room.mono (j := 1) hr (by decide)) bd.gu bd.tk hK.symm T.mg__law_draw T.F__law_draw.kp T.b__law_draw (dl_sl 0 (dl_pv dv_int dl_nil))) dv_int) da_nil))))
      dss_nil)
theorem sc__law_guard : FnScope ["source", "many", "low", "by"] ["source", "many"] (defScope s__law_guard) := ⟨rfl, rfl, rfl, by decide +kernel, rfl, by decide +kernel, by decide +kernel⟩
theorem ok__law_guard (T : Txt P w K mg cl) : FnP P w K mg base cl 2 T.a__law_guard T.fd__law_guard ["source", "many"] m__law_guard :=
  fnp (N := ["source", "many", "low", "by"]) (ps := ["source", "many"]) (k := 1) T.F__law_guard sc__law_guard rfl fun cdv A outer s H E C hK hcl hr bd => by
    subst hcl
    have nd := sc__law_guard.nd
    have hu64 := hr.units
    have hu65 : (A.deeper (envOfC "_law_guard" (defScope s__law_guard) s.heap.objs.size T.a__law_guard cdv)).units + 65 < cLine := by have := hr.un; omega
    exact (dss_cons (ds_if (dt_cmp (op_eqD hu64) (d_eq hK.symm) (dv_call (ok__law_draw T) (L2.Room.mono (j := 1) hr (by decide)) bd.gu bd.tk hK.symm T.mg__law_draw T.F__law_draw.kp T.b__law_draw (dl_sl 0 (dl_pv dv_int dl_nil))) dv_int (by rfl))
      (dss_cons (ds_ret (dv_tup (da_cons dv_int (da_cons (dv_var 1) (da_cons dv_int (da_cons dv_int da_nil))))))
      dss_nil)
      dss_nil)
      (dss_cons (ds_par (i := 2) (j := 3) bd.calm nd rfl rfl (by decide) rfl rfl (da_cons (dv_call (ok__law_draw T) (L2.Room.mono (j := 1) hr (by decide)) bd.gu bd.tk hK.symm T.mg__law_draw T.F__law_draw.kp T.b__law_draw (dl_sl 0 (dl_pv (dv_op op_addA (d_add hK.symm) (dv_var 1) dv_int) dl_nil))) (da_cons (dv_op op_addA (d_add hK.symm) dv_int (dv_call (ok__law_draw T) (L2.Room.mono (j := 1) hr (by decide)) bd.gu bd.tk hK.symm T.mg__law_draw T.F__law_draw.kp T.b__law_draw (dl_sl 0 (dl_pv dv_int dl_nil)))) da_nil)) rfl)
      (dss_cons (ds_ret (dv_tup (da_cons (dv_var 2) (da_cons (dv_op op_addA (d_add hK.symm) (dv_var 2) (dv_call (ok__law_draw T) (L2.Room.mono (j := 1) hr (by decide)) bd.gu bd.tk hK.symm T.mg__law_draw T.F__law_draw.kp T.b__law_draw (dl_sl 0 (dl_pv (dv_op op_addA (d_add hK.symm) (dv_op op_sub d_sub (dv_var 1) (dv_var 2)) dv_int) dl_nil)))) (da_cons (dv_var 3) (da_cons (dv_call (ok__law_draw T) (L2.Room.mono (j := 1) hr (by decide)) bd.gu bd.tk hK.symm T.mg__law_draw T.F__law_draw.kp T.b__law_draw (dl_sl 0 (dl_pv (dv_var 3) dl_nil))) da_nil))))))
      dss_nil)))
theorem sc__law_statement : FnScope ["source", "many", "names_here", "a", "b", "row", "name", "some", "more", "last", "pick", "part"] ["source", "many", "names_here"] (defScope s__law_statement) := ⟨rfl, rfl, rfl, by decide +kernel, rfl, by decide +kernel, by decide +kernel⟩
theorem ok__law_statement (T : Txt P w K mg cl) : FnP P w K mg base cl 3 T.a__law_statement T.fd__law_statement ["source", "many", "names_here"] m__law_statement :=
  fnp (N := ["source", "many", "names_here", "a", "b", "row", "name", "some", "more", "last", "pick", "part"]) (ps := ["source", "many", "names_here"]) (k := 2) T.F__law_statement sc__law_statement rfl fun cdv A outer s H E C hK hcl hr bd => by
    subst hcl
    have nd := sc__law_statement.nd
    have hu64 := hr.units
    have hu65 : (A.deeper (envOfC "_law_statement" (defScope s__law_statement) s.heap.objs.size T.a__law_statement cdv)).units + 65 < cLine := by have := hr.un; omega
    exact (dss_cons (ds_asg (dv_tup (da_cons (dv_call (ok__law_cell T) (L2.Room.mono (j := 2) hr (by decide)) bd.gu bd.tk hK.symm T.mg__law_cell T.F__law_cell.kp T.b__law_cell (dl_sl 0 dl_nil)) (da_cons (dv_call (ok__law_guard T) (L2.Room.mono (j := 2) hr (by decide)) bd.gu bd.tk hK.symm T.mg__law_guard T.F__law_guard.kp T.b__law_guard (dl_sl 0 (dl_pv (dv_var 1) dl_nil))) da_nil))) (dg_tup (n := 2) hK.symm bd.calm (dgs_cons (dg_tup (n := 2) hK.symm bd.calm (dgs_cons (dg_name (i := 3) nd rfl (Or.inl rfl)) (dgs_cons (dg_name (i := 4) nd rfl (Or.inl rfl)) dgs_nil))) (dgs_cons (dg_name (i := 5) nd rfl (Or.inl rfl)) dgs_nil))))
      (dss_cons (ds_set (i := 6) nd rfl (Or.inl rfl) (dv_ix hK.symm (dv_var 2) (dv_call (ok__law_draw T) (L2.Room.mono (j := 1) hr (by decide)) bd.gu bd.tk hK.symm T.mg__law_draw T.F__law_draw.kp T.b__law_draw (dl_sl 0 (dl_pv (dv_callB call_len (c_len hK.symm) rfl T.z_len (by decide +kernel) (da_cons (dv_var 2) da_nil)) dl_nil))) (fun _ _ => rfl)))
      (dss_cons (ds_lcV (i := 7) (own := [("part", 11)]) bd.calm nd rfl rfl (sw_true rfl rfl rfl (by decide +kernel)) (blkOk_by (N := ["source", "many", "names_here", "a", "b", "row", "name", "some", "more", "last", "pick", "part"]) (sc := defScope s__law_statement) (by decide +kernel)) (di_rangeW1 rfl T.z_range (da_cons dv_int da_nil)) (fun _ _ _ _ _ => by exact (dg_name (i := 11) nd rfl (by first | exact Or.inl rfl | exact Or.inr rfl) (hv := by rfl))) (fun _ _ _ _ _ => by exact dts_nil) (fun _ _ _ _ _ => by exact (dv_ix hK.symm (dv_var 2) (dv_call (ok__law_draw T) (by exact (L2.Room.mono (j := 1) hr (by decide))) (by exact bd.gu) takesN hK.symm T.mg__law_draw T.F__law_draw.kp T.b__law_draw (dl_sl 0 (dl_pv (dv_callB call_len (c_len hK.symm) rfl T.z_len (by decide +kernel) (da_cons (dv_var 2) da_nil)) dl_nil))) (fun _ _ => rfl))))
      (dss_cons (ds_par (i := 8) (j := 9) bd.calm nd rfl rfl (by decide) rfl rfl (da_cons (dv_call (ok__law_cell T) (L2.Room.mono (j := 2) hr (by decide)) bd.gu bd.tk hK.symm T.mg__law_cell T.F__law_cell.kp T.b__law_cell (dl_sl 0 dl_nil)) (da_cons (dv_call (ok__law_cell T) (L2.Room.mono (j := 2) hr (by decide)) bd.gu bd.tk hK.symm T.mg__law_cell T.F__law_cell.kp T.b__law_cell (dl_sl 0 dl_nil)) da_nil)) rfl)
      (dss_cons (ds_set (i := 10) nd rfl (Or.inl rfl) (dv_call (ok__law_draw T) (L2.Room.mono (j := 1) hr (by decide)) bd.gu bd.tk hK.symm T.mg__law_draw T.F__law_draw.kp T.b__law_draw (dl_sl 0 (dl_pv dv_int dl_nil))))
      (dss_cons (ds_if (dt_cmp op_lt d_lt (dv_var 10) dv_int (by rfl))
      (dss_cons (ds_ret (dv_tup (da_cons dv_str (da_cons (dv_var 5) (da_cons (dv_var 6) (da_cons (dv_var 3) (da_cons (dv_var 4) (da_cons (dv_op op_sub d_sub (dv_call (ok__law_draw T) (L2.Room.mono (j := 1) hr (by decide)) bd.gu bd.tk hK.symm T.mg__law_draw T.F__law_draw.kp T.b__law_draw (dl_sl 0 (dl_pv dv_int dl_nil))) dv_int) (da_cons (dv_op op_sub d_sub (dv_call (ok__law_draw T) (L2.Room.mono (j := 1) hr (by decide)) bd.gu bd.tk hK.symm T.mg__law_draw T.F__law_draw.kp T.b__law_draw (dl_sl 0 (dl_pv dv_int dl_nil))) dv_int) da_nil)))))))))
      dss_nil)
      dss_nil)
      (dss_cons (ds_if (dt_cmp (op_eqD hu64) (d_eq hK.symm) (dv_var 10) dv_int (by rfl))
      (dss_cons (ds_ret (dv_tup (da_cons dv_str (da_cons (dv_var 5) (da_cons (dv_var 6) (da_cons (dv_var 3) (da_cons (dv_var 4) (da_cons (dv_ix hK.symm (dv_var 7) dv_int (fun _ _ => rfl)) (da_cons (dv_ix hK.symm (dv_var 8) dv_int (fun _ _ => rfl)) (da_cons (dv_ix hK.symm (dv_var 8) dv_int (fun _ _ => rfl)) (da_cons (dv_op op_sub d_sub (dv_call (ok__law_draw T) (L2.Room.mono (j := 1) hr (by decide)) bd.gu bd.tk hK.symm T.mg__law_draw T.F__law_draw.kp T.b__law_draw (dl_sl 0 (dl_pv dv_int dl_nil))) dv_int) da_nil)))))))))))
      dss_nil)
      dss_nil)
      (dss_cons (ds_ret (dv_tup (da_cons dv_str (da_cons (dv_var 5) (da_cons (dv_var 6) (da_cons (dv_var 3) (da_cons (dv_var 4) (da_cons (dv_ix hK.symm (dv_var 7) dv_int (fun _ _ => rfl)) (da_cons (dv_ix hK.symm (dv_var 8) dv_int (fun _ _ => rfl)) (da_cons (dv_ix hK.symm (dv_var 8) dv_int (fun _ _ => rfl)) (da_cons (dv_ix hK.symm (dv_var 7) dv_int (fun _ _ => rfl)) (da_cons (dv_ix hK.symm (dv_var 9) dv_int (fun _ _ => rfl)) (da_cons (dv_ix hK.symm (dv_var 9) dv_int (fun _ _ => rfl)) da_nil)))))))))))))
      dss_nil))))))))
theorem sc__law_kind_of : FnScope ["problem", "held", "found", "name", "is_one"] ["problem"] (defScope s__law_kind_of) := ⟨rfl, rfl, rfl, by decide +kernel, rfl, by decide +kernel, by decide +kernel⟩
theorem ok__law_kind_of (T : Txt P w K mg cl) : PLH.FnHot P w K mg base cl 1 T.a__law_kind_of T.fd__law_kind_of "problem" m__law_kind_of :=
  PLH.fnHot (N := ["problem", "held", "found", "name", "is_one"]) (k := 0) T.F__law_kind_of sc__law_kind_of rfl fun cdv A outer s H E C hK hcl hr hot => by
    subst hcl
    have nd := sc__law_kind_of.nd
    have hu64 : (A.deeper (envOfC "_law_kind_of" (defScope s__law_kind_of) s.heap.objs.size T.a__law_kind_of cdv)).units + 64 < cLine := by have := hr.un; omega
    exact (dss_cons (ds_set (i := 1) nd rfl (Or.inl rfl) (dv_frz (do_lst (da_cons (dv_tup (da_cons dv_str (da_cons (dv_isX T.xk (by decide) (dv_var 0) rfl T.z_isinstance rfl T.ge_InvalidGuard) da_nil))) (da_cons (dv_tup (da_cons dv_str (da_cons (dv_isX T.xk (by decide) (dv_var 0) rfl T.z_isinstance rfl T.ge_InvalidLanes) da_nil))) da_nil)))))
      (dss_cons (ds_set (i := 1) nd rfl (Or.inl rfl) (dv_op op_addA (d_add hK.symm) (dv_var 1) (dv_frz (do_lst (da_cons (dv_tup (da_cons dv_str (da_cons (dv_isX T.xk (by decide) (dv_var 0) rfl T.z_isinstance rfl T.ge_InvalidStatement) da_nil))) da_nil)))))
      (dss_cons (ds_set (i := 1) nd rfl (Or.inl rfl) (dv_op op_addA (d_add hK.symm) (dv_var 1) (dv_frz (do_lst (da_cons (dv_tup (da_cons dv_str (da_cons (dv_isX T.xk (by decide) (dv_var 0) rfl T.z_isinstance rfl T.ge_InvalidBarrier) da_nil))) da_nil)))))
      (dss_cons (ds_set (i := 1) nd rfl (Or.inl rfl) (dv_op op_addA (d_add hK.symm) (dv_var 1) (dv_frz (do_lst (da_cons (dv_tup (da_cons dv_str (da_cons (dv_isX T.xk (by decide) (dv_var 0) rfl T.z_isinstance rfl T.ge_InvalidAccess) da_nil))) da_nil)))))
      (dss_cons (ds_set (i := 1) nd rfl (Or.inl rfl) (dv_op op_addA (d_add hK.symm) (dv_var 1) (dv_frz (do_lst (da_cons (dv_tup (da_cons dv_str (da_cons (dv_isX T.xk (by decide) (dv_var 0) rfl T.z_isinstance rfl T.ge_InvalidNumber) da_nil))) da_nil)))))
      (dss_cons (ds_set (i := 1) nd rfl (Or.inl rfl) (dv_op op_addA (d_add hK.symm) (dv_var 1) (dv_frz (do_lst (da_cons (dv_tup (da_cons dv_str (da_cons (dv_isX T.xk (by decide) (dv_var 0) rfl T.z_isinstance rfl T.ge_InvalidArray) da_nil))) (da_cons (dv_tup (da_cons dv_str (da_cons (dv_isX T.xk (by decide) (dv_var 0) rfl T.z_isinstance rfl T.ge_NotPlain) da_nil))) da_nil))))))
      (dss_cons (ds_set (i := 1) nd rfl (Or.inl rfl) (dv_op op_addA (d_add hK.symm) (dv_var 1) (dv_frz (do_lst (da_cons (dv_tup (da_cons dv_str (da_cons (dv_isX T.xk (by decide) (dv_var 0) rfl T.z_isinstance rfl T.ge_InvalidSchedule) da_nil))) (da_cons (dv_tup (da_cons dv_str (da_cons (dv_isX T.xk (by decide) (dv_var 0) rfl T.z_isinstance rfl T.ge_Racing) da_nil))) da_nil))))))
      (dss_cons (ds_set (i := 1) nd rfl (Or.inl rfl) (dv_op op_addA (d_add hK.symm) (dv_var 1) (dv_frz (do_lst (da_cons (dv_tup (da_cons dv_str (da_cons (dv_isX T.xk (by decide) (dv_var 0) rfl T.z_isinstance rfl T.ge_UnlikeLanes) da_nil))) (da_cons (dv_tup (da_cons dv_str (da_cons (dv_isX T.xk (by decide) (dv_var 0) rfl T.z_isinstance rfl T.ge_Unreadable) da_nil))) da_nil))))))
      (dss_cons (ds_set (i := 1) nd rfl (Or.inl rfl) (dv_op op_addA (d_add hK.symm) (dv_var 1) (dv_frz (do_lst (da_cons (dv_tup (da_cons dv_str (da_cons (dv_isX T.xk (by decide) (dv_var 0) rfl T.z_isinstance rfl T.ge_NothingToUndo) da_nil))) da_nil)))))
      (dss_cons (PLH.ds_lcH (i := 2) (own := [("name", 3), ("is_one", 4)]) hK.symm hot nd rfl rfl (sw_true rfl rfl rfl (by decide +kernel)) (blkOk_by (N := ["problem", "held", "found", "name", "is_one"]) (sc := defScope s__law_kind_of) (by decide +kernel)) (dv_var 1) (fun _ _ _ _ _ => by exact (PLH.dg_tupH (n := 2) hK.symm (by exact hot) (dgs_cons (dg_name (i := 3) nd rfl (by first | exact Or.inl rfl | exact Or.inr rfl) (hv := by rfl)) (dgs_cons (dg_name (i := 4) nd rfl (by first | exact Or.inl rfl | exact Or.inr rfl) (hv := by rfl)) dgs_nil)))) (fun _ _ _ _ _ => by exact (dts_one (dt_tru hK.symm (dv_var 4)))) (fun _ _ _ _ _ => by exact (dv_var 3)))
      (dss_cons (ds_if (dt_of (dw_or (dt_cmp (op_neD hu64) (d_ne hK.symm) (dv_callB call_len (c_len hK.symm) rfl T.z_len (by decide +kernel) (da_cons (dv_var 2) da_nil)) dv_int (by rfl)) (dw_or (dt_not (dt_tru hK.symm (dv_isX T.xk (by decide) (dv_var 0) rfl T.z_isinstance rfl T.ge_StrideError))) (dw_or1 (dt_not (dt_tru hK.symm (dv_isXve T.xk (dv_var 0) rfl T.z_isinstance rfl T.z_ValueError)))))))
      (dss_cons (ds_ret (dv_tup (da_cons dv_str (da_cons (dv_var 2) da_nil))))
      dss_nil)
      dss_nil)
      (dss_cons (ds_ret (dv_tup (da_cons (dv_ix hK.symm (dv_var 2) dv_int (fun _ _ => rfl)) (da_cons (dv_xv T.xk (dv_var 0)) da_nil))))
      dss_nil))))))))))))
theorem sc_check_array : FnScope ["name"] ["name"] (defScope s_check_array) := ⟨rfl, rfl, rfl, by decide +kernel, rfl, by decide +kernel, by decide +kernel⟩
theorem ok_check_array (T : Txt P w K mg cl) : FnP P w K mg base cl 2 T.a_check_array T.fd_check_array ["name"] PM.m_check_array :=
  fnp (N := ["name"]) (ps := ["name"]) (k := 1) T.F_check_array sc_check_array rfl fun cdv A outer s H E C hK hcl hr bd => by
    subst hcl
    have nd := sc_check_array.nd
    have hu64 := hr.units
    have hu65 : (A.deeper (envOfC "check_array" (defScope s_check_array) s.heap.objs.size T.a_check_array cdv)).units + 65 < cLine := by have := hr.un; omega
    exact (dss_cons (ds_if (dt_not (dt_tru hK.symm (dv_call (ok_is_array T) (L2.Room.mono (j := 1) hr (by decide)) bd.gu bd.tk hK.symm T.mg_is_array T.F_is_array.kp T.b_is_array (dl_pv (dv_var 0) dl_nil))))
      (dss_cons (ds_raise bd.calm T.x_InvalidArray hr bd.tk rfl (dv_var 0))
      dss_nil)
      dss_nil)
      dss_nil)
theorem sc_first_of : FnScope ["guard", "low", "high", "step", "rest"] ["guard"] (defScope s_first_of) := ⟨rfl, rfl, rfl, by decide +kernel, rfl, by decide +kernel, by decide +kernel⟩
theorem ok_first_of (T : Txt P w K mg cl) : FnP P w K mg base cl 1 T.a_first_of T.fd_first_of ["guard"] PM.m_first_of :=
  fnp (N := ["guard", "low", "high", "step", "rest"]) (ps := ["guard"]) (k := 0) T.F_first_of sc_first_of rfl fun cdv A outer s H E C hK hcl hr bd => by
    subst hcl
    have nd := sc_first_of.nd
    have hu64 := hr.units
    have hu65 : (A.deeper (envOfC "first_of" (defScope s_first_of) s.heap.objs.size T.a_first_of cdv)).units + 65 < cLine := by have := hr.un; omega
    exact (dss_cons (ds_asg (dv_var 0) (dg_tup (n := 4) hK.symm bd.calm (dgs_cons (dg_name (i := 1) nd rfl (Or.inl rfl)) (dgs_cons (dg_name (i := 2) nd rfl (Or.inl rfl)) (dgs_cons (dg_name (i := 3) nd rfl (Or.inl rfl)) (dgs_cons (dg_name (i := 4) nd rfl (Or.inl rfl)) dgs_nil))))))
      (dss_cons (ds_ret (dv_op op_addA (d_add hK.symm) (dv_var 1) (dv_op op_modN d_mod (dv_op op_sub d_sub (dv_var 4) (dv_var 1)) (dv_var 3))))
      dss_nil))
theorem sc_lanes_of : FnScope ["guard"] ["guard"] (defScope s_lanes_of) := ⟨rfl, rfl, rfl, by decide +kernel, rfl, by decide +kernel, by decide +kernel⟩
theorem ok_lanes_of (T : Txt P w K mg cl) : FnP P w K mg base cl 2 T.a_lanes_of T.fd_lanes_of ["guard"] PM.m_lanes_of :=
  fnp (N := ["guard"]) (ps := ["guard"]) (k := 1) T.F_lanes_of sc_lanes_of rfl fun cdv A outer s H E C hK hcl hr bd => by
    subst hcl
    have nd := sc_lanes_of.nd
    have hu64 := hr.units
    have hu65 : (A.deeper (envOfC "lanes_of" (defScope s_lanes_of) s.heap.objs.size T.a_lanes_of cdv)).units + 65 < cLine := by have := hr.un; omega
    exact (dss_cons (ds_ret (dv_callB (call_max2 bd.calm) c_max2 rfl T.z_max (by decide +kernel) (da_cons dv_int (da_cons (dv_op op_fdivA d_fdiv (dv_op op_sub d_sub (dv_op op_addA (d_add hK.symm) (dv_op op_sub d_sub (dv_ix hK.symm (dv_var 0) dv_int (fun _ _ => rfl)) (dv_call (ok_first_of T) (L2.Room.mono (j := 1) hr (by decide)) bd.gu bd.tk hK.symm T.mg_first_of T.F_first_of.kp T.b_first_of (dl_pv (dv_var 0) dl_nil))) (dv_ix hK.symm (dv_var 0) dv_int (fun _ _ => rfl))) dv_int) (dv_ix hK.symm (dv_var 0) dv_int (fun _ _ => rfl))) da_nil))))
      dss_nil)
theorem sc_bezout : FnScope ["one", "other", "first", "second", "x", "y", "times"] ["one", "other"] (defScope s_bezout) := ⟨rfl, rfl, rfl, by decide +kernel, rfl, by decide +kernel, by decide +kernel⟩
theorem ok_bezout (T : Txt P w K mg cl) : FnP P w K mg base cl 1 T.a_bezout T.fd_bezout ["one", "other"] PM.m_bezout :=
  fnp (N := ["one", "other", "first", "second", "x", "y", "times"]) (ps := ["one", "other"]) (k := 0) T.F_bezout sc_bezout rfl fun cdv A outer s H E C hK hcl hr bd => by
    subst hcl
    have nd := sc_bezout.nd
    have hu64 := hr.units
    have hu65 : (A.deeper (envOfC "bezout" (defScope s_bezout) s.heap.objs.size T.a_bezout cdv)).units + 65 < cLine := by have := hr.un; omega
    exact (dss_cons (ds_asg (dv_tup (da_cons (dv_var 0) (da_cons (dv_var 1) (da_cons dv_int (da_cons dv_int da_nil))))) (dg_tup (n := 4) hK.symm bd.calm (dgs_cons (dg_name (i := 2) nd rfl (Or.inl rfl)) (dgs_cons (dg_name (i := 3) nd rfl (Or.inl rfl)) (dgs_cons (dg_name (i := 4) nd rfl (Or.inl rfl)) (dgs_cons (dg_name (i := 5) nd rfl (Or.inl rfl)) dgs_nil))))))
      (dss_cons (ds_while bd.own (dt_cmp (op_neD hu64) (d_ne hK.symm) (dv_var 3) dv_int (by rfl))
      (dss_cons (ds_set (i := 6) nd rfl (Or.inl rfl) (dv_op op_fdivA d_fdiv (dv_var 2) (dv_var 3)))
      (dss_cons (ds_par (i := 2) (j := 3) bd.calm nd rfl rfl (by decide) rfl rfl (da_cons (dv_var 3) (da_cons (dv_op op_sub d_sub (dv_var 2) (dv_op op_mulA d_mul (dv_var 6) (dv_var 3))) da_nil)) rfl)
      (dss_cons (ds_par (i := 4) (j := 5) bd.calm nd rfl rfl (by decide) rfl rfl (da_cons (dv_var 5) (da_cons (dv_op op_sub d_sub (dv_var 4) (dv_op op_mulA d_mul (dv_var 6) (dv_var 5))) da_nil)) rfl)
      dss_nil))))
      (dss_cons (ds_ret (dv_if (dt_cmp op_ge d_ge (dv_var 2) dv_int (by rfl)) (dv_tup (da_cons (dv_var 2) (da_cons (dv_var 4) da_nil))) (dv_tup (da_cons (dv_un un_neg d_neg (dv_var 2)) (da_cons (dv_un un_neg d_neg (dv_var 4)) da_nil)))))
      dss_nil)))
theorem sc_meeting : FnScope ["guard", "other", "divisor", "factor", "apart", "step", "rest", "found"] ["guard", "other"] (defScope s_meeting) := ⟨rfl, rfl, rfl, by decide +kernel, rfl, by decide +kernel, by decide +kernel⟩
theorem ok_meeting (T : Txt P w K mg cl) : FnP P w K mg base cl 3 T.a_meeting T.fd_meeting ["guard", "other"] PM.m_meeting :=
  fnp (N := ["guard", "other", "divisor", "factor", "apart", "step", "rest", "found"]) (ps := ["guard", "other"]) (k := 2) T.F_meeting sc_meeting rfl fun cdv A outer s H E C hK hcl hr bd => by
    subst hcl
    have nd := sc_meeting.nd
    have hu64 := hr.units
    have hu65 : (A.deeper (envOfC "meeting" (defScope s_meeting) s.heap.objs.size T.a_meeting cdv)).units + 65 < cLine := by have := hr.un; omega
    exact (dss_cons (ds_asg (dv_call (ok_bezout T) (L2.Room.mono (j := 1) hr (by decide)) bd.gu bd.tk hK.symm T.mg_bezout T.F_bezout.kp T.b_bezout (dl_pv (dv_ix hK.symm (dv_var 0) dv_int (fun _ _ => rfl)) (dl_pv (dv_ix hK.symm (dv_var 1) dv_int (fun _ _ => rfl)) dl_nil))) (dg_tup (n := 2) hK.symm bd.calm (dgs_cons (dg_name (i := 2) nd rfl (Or.inl rfl)) (dgs_cons (dg_name (i := 3) nd rfl (Or.inl rfl)) dgs_nil))))
      (dss_cons (ds_set (i := 4) nd rfl (Or.inl rfl) (dv_op op_sub d_sub (dv_ix hK.symm (dv_var 1) dv_int (fun _ _ => rfl)) (dv_ix hK.symm (dv_var 0) dv_int (fun _ _ => rfl))))
      (dss_cons (ds_if (dt_cmp (op_neD hu64) (d_ne hK.symm) (dv_op op_modN d_mod (dv_var 4) (dv_var 2)) dv_int (by rfl))
      (dss_cons (ds_ret dv_non)
      dss_nil)
      dss_nil)
      (dss_cons (ds_set (i := 5) nd rfl (Or.inl rfl) (dv_op op_mulA d_mul (dv_op op_fdivA d_fdiv (dv_ix hK.symm (dv_var 0) dv_int (fun _ _ => rfl)) (dv_var 2)) (dv_ix hK.symm (dv_var 1) dv_int (fun _ _ => rfl))))
      (dss_cons (ds_set (i := 6) nd rfl (Or.inl rfl) (dv_op op_modN d_mod (dv_op op_addA (d_add hK.symm) (dv_ix hK.symm (dv_var 0) dv_int (fun _ _ => rfl)) (dv_op op_mulA d_mul (dv_ix hK.symm (dv_var 0) dv_int (fun _ _ => rfl)) (dv_op op_mulA d_mul (dv_op op_fdivA d_fdiv (dv_var 4) (dv_var 2)) (dv_var 3)))) (dv_var 5)))
      (dss_cons (ds_set (i := 7) nd rfl (Or.inl rfl) (dv_tup (da_cons (dv_callB (call_max2 bd.calm) c_max2 rfl T.z_max (by decide +kernel) (da_cons (dv_ix hK.symm (dv_var 0) dv_int (fun _ _ => rfl)) (da_cons (dv_ix hK.symm (dv_var 1) dv_int (fun _ _ => rfl)) da_nil))) (da_cons (dv_callB (call_min2 bd.calm) c_min2 rfl T.z_min (by decide +kernel) (da_cons (dv_ix hK.symm (dv_var 0) dv_int (fun _ _ => rfl)) (da_cons (dv_ix hK.symm (dv_var 1) dv_int (fun _ _ => rfl)) da_nil))) (da_cons (dv_var 5) (da_cons (dv_var 6) da_nil))))))
      (dss_cons (ds_ret (dv_if (dt_of (dw_and (dt_cmp op_lt d_lt (dv_ix hK.symm (dv_var 7) dv_int (fun _ _ => rfl)) (dv_ix hK.symm (dv_var 7) dv_int (fun _ _ => rfl)) (by rfl)) (dw_and1 (dt_cmp op_gt d_gt (dv_call (ok_lanes_of T) (L2.Room.mono (j := 2) hr (by decide)) bd.gu bd.tk hK.symm T.mg_lanes_of T.F_lanes_of.kp T.b_lanes_of (dl_pv (dv_var 7) dl_nil)) dv_int (by rfl))))) (dv_var 7) dv_non))
      dss_nil)))))))
theorem sc_count_union : FnScope ["rows", "total", "place", "row", "common", "other", "both"] ["rows"] (defScope s_count_union) := ⟨rfl, rfl, rfl, by decide +kernel, rfl, by decide +kernel, by decide +kernel⟩
theorem okr_count_union (T : Txt P w K mg cl) : ∀ n : Nat, FnP P w K mg base cl (4 + n) T.a_count_union T.fd_count_union ["rows"] (PM.m_count_union_r n) := by
  intro n
  induction n with
  | zero => exact fnp_stuck T.F_count_union sc_count_union
  | succ n ih =>
   exact fnp (N := ["rows", "total", "place", "row", "common", "other", "both"]) (ps := ["rows"]) (k := 4 + n) T.F_count_union sc_count_union rfl fun cdv A outer s H E C hK hcl hr bd => by
    subst hcl
    have nd := sc_count_union.nd
    have hu64 := hr.units
    have hu65 : (A.deeper (envOfC "count_union" (defScope s_count_union) s.heap.objs.size T.a_count_union cdv)).units + 65 < cLine := by have := hr.un; omega
    exact (dss_cons (ds_set (i := 1) nd rfl (Or.inl rfl) dv_int)
      (dss_cons (ds_for bd.own bd.calm (di_enumQ hK.symm rfl T.z_enumerate (da_cons (dv_var 0) da_nil)) (dg_tup (n := 2) hK.symm bd.calm (dgs_cons (dg_name (i := 2) nd rfl (Or.inl rfl)) (dgs_cons (dg_name (i := 3) nd rfl (Or.inr rfl)) dgs_nil)))
      (dss_cons (ds_lcV (i := 4) (own := [("other", 5)]) bd.calm nd rfl rfl (sw_true rfl rfl rfl (by decide +kernel)) (blkOk_by (N := ["rows", "total", "place", "row", "common", "other", "both"]) (sc := defScope s_count_union) (by decide +kernel)) (di_any hK.symm (dv_sl hK.symm (dv_var 0) dp_none (dp_some (dv_var 2)))) (fun _ _ _ _ _ => by exact (dg_name (i := 5) nd rfl (by first | exact Or.inl rfl | exact Or.inr rfl) (hv := by rfl))) (fun _ _ _ _ _ => by exact dts_nil) (fun _ _ _ _ _ => by exact (dv_call (ok_meeting T) (by exact (L2.Room.mono (j := 3) hr (by omega))) (by exact bd.gu) takesN hK.symm T.mg_meeting T.F_meeting.kp T.b_meeting (dl_pv (dv_var 3) (dl_pv (dv_var 5) dl_nil)))))
      (dss_cons (ds_aug (i := 1) nd rfl (Or.inl rfl) (dv_op op_sub d_sub (dv_call (ok_lanes_of T) (L2.Room.mono (j := 2) hr (by omega)) bd.gu bd.tk hK.symm T.mg_lanes_of T.F_lanes_of.kp T.b_lanes_of (dl_pv (dv_var 3) dl_nil)) (dv_call ih (L2.Room.mono (j := 4 + n) hr (by omega)) bd.gu bd.tk hK.symm T.mg_count_union T.F_count_union.kp T.b_count_union (dl_pv (dv_frz (do_lc (own := [("both", 6)]) bd.calm nd (blkOk_by (N := ["rows", "total", "place", "row", "common", "other", "both"]) (sc := defScope s_count_union) (by decide +kernel)) (di_any hK.symm (dv_var 4)) (fun _ _ _ _ _ => by exact (dg_name (i := 6) nd rfl (by first | exact Or.inl rfl | exact Or.inr rfl) (hv := by rfl))) (fun _ _ _ _ _ => by exact (dts_one (dt_cmp op_notN d_isnot (dv_var 6) dv_non (by rfl)))) (fun _ _ _ _ _ => by exact (dv_var 6)))) dl_nil))) ip_add d_ipadd)
      dss_nil)))
      (dss_cons (ds_ret (dv_var 1))
      dss_nil)))
theorem ok_count_union (T : Txt P w K mg cl) : FnP P w K mg base cl 18 T.a_count_union T.fd_count_union ["rows"] PM.m_count_union := okr_count_union T 14
theorem sc_accesses_in : FnScope ["number", "statement", "places", "found", "place"] ["number", "statement"] (defScope s_accesses_in) := ⟨rfl, rfl, rfl, by decide +kernel, rfl, by decide +kernel, by decide +kernel⟩
theorem ok_accesses_in (T : Txt P w K mg cl) : FnP P w K mg base cl 1 T.a_accesses_in T.fd_accesses_in ["number", "statement"] PM.m_accesses_in :=
  fnp (N := ["number", "statement", "places", "found", "place"]) (ps := ["number", "statement"]) (k := 0) T.F_accesses_in sc_accesses_in rfl fun cdv A outer s H E C hK hcl hr bd => by
    subst hcl
    have nd := sc_accesses_in.nd
    have hu64 := hr.units
    have hu65 : (A.deeper (envOfC "accesses_in" (defScope s_accesses_in) s.heap.objs.size T.a_accesses_in cdv)).units + 65 < cLine := by have := hr.un; omega
    exact (dss_cons (ds_set (i := 2) nd rfl (Or.inl rfl) (dv_dct hK.symm T.d_PLACES (dv_ix hK.symm (dv_var 1) dv_int (fun _ _ => rfl)) (fun _ _ => rfl)))
      (dss_cons (ds_lcV (i := 3) (own := [("place", 4)]) bd.calm nd rfl rfl (sw_true rfl rfl rfl (by decide +kernel)) (blkOk_by (N := ["number", "statement", "places", "found", "place"]) (sc := defScope s_accesses_in) (by decide +kernel)) (di_any hK.symm (dv_sl hK.symm (dv_var 2) (dp_some dv_int) dp_none)) (fun _ _ _ _ _ => by exact (dg_name (i := 4) nd rfl (by first | exact Or.inl rfl | exact Or.inr rfl) (hv := by rfl))) (fun _ _ _ _ _ => by exact dts_nil) (fun _ _ _ _ _ => by exact (dv_tup (da_cons (dv_var 0) (da_cons (dv_gstr rfl T.n_READ) (da_star hK.symm (dv_sl hK.symm (dv_var 1) (dp_some (dv_var 4)) (dp_some (dv_op op_addA (d_add hK.symm) (dv_var 4) dv_int))) da_nil))))))
      (dss_cons (ds_ret (dv_frz (do_lst (da_star hK.symm (dv_var 3) (da_cons (dv_tup (da_cons (dv_var 0) (da_cons (dv_gstr rfl T.n_WRITE) (da_star hK.symm (dv_sl hK.symm (dv_var 1) (dp_some (dv_ix hK.symm (dv_var 2) dv_int (fun _ _ => rfl))) (dp_some (dv_op op_addA (d_add hK.symm) (dv_ix hK.symm (dv_var 2) dv_int (fun _ _ => rfl)) dv_int))) da_nil)))) da_nil)))))
      dss_nil)))
theorem sc_access_list : FnScope ["kernel", "found", "number", "statement"] ["kernel"] (defScope s_access_list) := ⟨rfl, rfl, rfl, by decide +kernel, rfl, by decide +kernel, by decide +kernel⟩
theorem ok_access_list (T : Txt P w K mg cl) : FnP P w K mg base cl 2 T.a_access_list T.fd_access_list ["kernel"] PM.m_access_list :=
  fnp (N := ["kernel", "found", "number", "statement"]) (ps := ["kernel"]) (k := 1) T.F_access_list sc_access_list rfl fun cdv A outer s H E C hK hcl hr bd => by
    subst hcl
    have nd := sc_access_list.nd
    have hu64 := hr.units
    have hu65 : (A.deeper (envOfC "access_list" (defScope s_access_list) s.heap.objs.size T.a_access_list cdv)).units + 65 < cLine := by have := hr.un; omega
    exact (dss_cons (ds_setO (i := 1) nd rfl (Or.inl rfl) (do_lst da_nil))
      (dss_cons (ds_for bd.own bd.calm (di_enumQ hK.symm rfl T.z_enumerate (da_cons (dv_fld "Kernel" "kept_statements" hK.symm (dv_var 0) T.k_Kernel T.na_Kernel_kept_statements) da_nil)) (dg_tup (n := 2) hK.symm bd.calm (dgs_cons (dg_name (i := 2) nd rfl (Or.inl rfl)) (dgs_cons (dg_name (i := 3) nd rfl (Or.inl rfl)) dgs_nil)))
      (dss_cons (ds_ext 1 (dv_call (ok_accesses_in T) (L2.Room.mono (j := 1) hr (by decide)) bd.gu bd.tk hK.symm T.mg_accesses_in T.F_accesses_in.kp T.b_accesses_in (dl_pv (dv_var 2) (dl_pv (dv_var 3) dl_nil))))
      dss_nil))
      (dss_cons (ds_ret (dv_frz (do_mv 1)))
      dss_nil)))
theorem sc_cells_of : FnScope ["guard", "a", "b", "first", "many", "step", "start"] ["guard", "a", "b"] (defScope s_cells_of) := ⟨rfl, rfl, rfl, by decide +kernel, rfl, by decide +kernel, by decide +kernel⟩
theorem ok_cells_of (T : Txt P w K mg cl) : FnP P w K mg base cl 3 T.a_cells_of T.fd_cells_of ["guard", "a", "b"] PM.m_cells_of :=
  fnp (N := ["guard", "a", "b", "first", "many", "step", "start"]) (ps := ["guard", "a", "b"]) (k := 2) T.F_cells_of sc_cells_of rfl fun cdv A outer s H E C hK hcl hr bd => by
    subst hcl
    have nd := sc_cells_of.nd
    have hu64 := hr.units
    have hu65 : (A.deeper (envOfC "cells_of" (defScope s_cells_of) s.heap.objs.size T.a_cells_of cdv)).units + 65 < cLine := by have := hr.un; omega
    exact (dss_cons (ds_par (i := 3) (j := 4) bd.calm nd rfl rfl (by decide) rfl rfl (da_cons (dv_call (ok_first_of T) (L2.Room.mono (j := 1) hr (by decide)) bd.gu bd.tk hK.symm T.mg_first_of T.F_first_of.kp T.b_first_of (dl_pv (dv_var 0) dl_nil)) (da_cons (dv_call (ok_lanes_of T) (L2.Room.mono (j := 2) hr (by decide)) bd.gu bd.tk hK.symm T.mg_lanes_of T.F_lanes_of.kp T.b_lanes_of (dl_pv (dv_var 0) dl_nil)) da_nil)) rfl)
      (dss_cons (ds_if (dt_cmp (op_eqD hu64) (d_eq hK.symm) (dv_var 1) dv_int (by rfl))
      (dss_cons (ds_ret (dv_tup (da_cons (dv_var 2) (da_cons (dv_op op_addA (d_add hK.symm) (dv_var 2) dv_int) (da_cons dv_int (da_cons dv_int da_nil))))))
      dss_nil)
      dss_nil)
      (dss_cons (ds_set (i := 5) nd rfl (Or.inl rfl) (dv_op op_mulA d_mul (dv_callB call_abs c_abs rfl T.z_abs (by decide +kernel) (da_cons (dv_var 1) da_nil)) (dv_ix hK.symm (dv_var 0) dv_int (fun _ _ => rfl))))
      (dss_cons (ds_set (i := 6) nd rfl (Or.inl rfl) (dv_if (dt_cmp op_gt d_gt (dv_var 1) dv_int (by rfl)) (dv_op op_addA (d_add hK.symm) (dv_op op_mulA d_mul (dv_var 1) (dv_var 3)) (dv_var 2)) (dv_op op_addA (d_add hK.symm) (dv_op op_mulA d_mul (dv_var 1) (dv_op op_addA (d_add hK.symm) (dv_var 3) (dv_op op_mulA d_mul (dv_ix hK.symm (dv_var 0) dv_int (fun _ _ => rfl)) (dv_op op_sub d_sub (dv_var 4) dv_int)))) (dv_var 2))))
      (dss_cons (ds_ret (dv_tup (da_cons (dv_var 6) (da_cons (dv_op op_addA (d_add hK.symm) (dv_op op_addA (d_add hK.symm) (dv_var 6) (dv_op op_mulA d_mul (dv_var 5) (dv_op op_sub d_sub (dv_var 4) dv_int))) dv_int) (da_cons (dv_var 5) (da_cons (dv_op op_modN d_mod (dv_var 6) (dv_var 5)) da_nil))))))
      dss_nil)))))
theorem sc_written_rows : FnScope ["kernel", "array", "found", "number", "word", "name", "a", "b", "guard"] ["kernel", "array"] (defScope s_written_rows) := ⟨rfl, rfl, rfl, by decide +kernel, rfl, by decide +kernel, by decide +kernel⟩
theorem ok_written_rows (T : Txt P w K mg cl) : FnP P w K mg base cl 4 T.a_written_rows T.fd_written_rows ["kernel", "array"] PM.m_written_rows :=
  fnp (N := ["kernel", "array", "found", "number", "word", "name", "a", "b", "guard"]) (ps := ["kernel", "array"]) (k := 3) T.F_written_rows sc_written_rows rfl fun cdv A outer s H E C hK hcl hr bd => by
    subst hcl
    have nd := sc_written_rows.nd
    have hu64 := hr.units
    have hu65 : (A.deeper (envOfC "written_rows" (defScope s_written_rows) s.heap.objs.size T.a_written_rows cdv)).units + 65 < cLine := by have := hr.un; omega
    exact (dss_cons (ds_setO (i := 2) nd rfl (Or.inl rfl) (do_lst da_nil))
      (dss_cons (ds_for bd.own bd.calm (di_any hK.symm (dv_call (ok_access_list T) (L2.Room.mono (j := 2) hr (by decide)) bd.gu bd.tk hK.symm T.mg_access_list T.F_access_list.kp T.b_access_list (dl_pv (dv_var 0) dl_nil))) (dg_tup (n := 5) hK.symm bd.calm (dgs_cons (dg_name (i := 3) nd rfl (Or.inl rfl)) (dgs_cons (dg_name (i := 4) nd rfl (Or.inl rfl)) (dgs_cons (dg_name (i := 5) nd rfl (Or.inl rfl)) (dgs_cons (dg_name (i := 6) nd rfl (Or.inl rfl)) (dgs_cons (dg_name (i := 7) nd rfl (Or.inl rfl)) dgs_nil))))))
      (dss_cons (ds_set (i := 8) nd rfl (Or.inl rfl) (dv_ix hK.symm (dv_ix hK.symm (dv_fld "Kernel" "kept_statements" hK.symm (dv_var 0) T.k_Kernel T.na_Kernel_kept_statements) (dv_var 3) (fun _ _ => rfl)) dv_int (fun _ _ => rfl)))
      (dss_cons (ds_if (dt_of (dw_and (dt_cmp (op_eqD hu64) (d_eq hK.symm) (dv_var 4) (dv_gstr rfl T.n_WRITE) (by rfl)) (dw_and (dt_cmp (op_eqD hu64) (d_eq hK.symm) (dv_var 5) (dv_var 1) (by rfl)) (dw_and1 (dt_cmp op_gt d_gt (dv_call (ok_lanes_of T) (L2.Room.mono (j := 2) hr (by decide)) bd.gu bd.tk hK.symm T.mg_lanes_of T.F_lanes_of.kp T.b_lanes_of (dl_pv (dv_var 8) dl_nil)) dv_int (by rfl))))))
      (dss_cons (ds_app 2 (dv_call (ok_cells_of T) (L2.Room.mono (j := 3) hr (by decide)) bd.gu bd.tk hK.symm T.mg_cells_of T.F_cells_of.kp T.b_cells_of (dl_pv (dv_var 8) (dl_pv (dv_var 6) (dl_pv (dv_var 7) dl_nil)))))
      dss_nil)
      dss_nil)
      dss_nil)))
      (dss_cons (ds_ret (dv_frz (do_mv 2)))
      dss_nil)))
theorem sc_count_written : FnScope ["kernel", "array"] ["kernel", "array"] (defScope s_count_written) := ⟨rfl, rfl, rfl, by decide +kernel, rfl, by decide +kernel, by decide +kernel⟩
theorem ok_count_written (T : Txt P w K mg cl) : FnP P w K mg base cl 19 T.a_count_written T.fd_count_written ["kernel", "array"] PM.m_count_written :=
  fnp (N := ["kernel", "array"]) (ps := ["kernel", "array"]) (k := 18) T.F_count_written sc_count_written rfl fun cdv A outer s H E C hK hcl hr bd => by
    subst hcl
    have nd := sc_count_written.nd
    have hu64 := hr.units
    have hu65 : (A.deeper (envOfC "count_written" (defScope s_count_written) s.heap.objs.size T.a_count_written cdv)).units + 65 < cLine := by have := hr.un; omega
    exact (dss_cons (ds_expr (dv_call (ok_check_array T) (L2.Room.mono (j := 2) hr (by decide)) bd.gu bd.tk hK.symm T.mg_check_array T.F_check_array.kp T.b_check_array (dl_pv (dv_var 1) dl_nil)))
      (dss_cons (ds_ret (dv_call (ok_count_union T) (L2.Room.mono (j := 18) hr (by decide)) bd.gu bd.tk hK.symm T.mg_count_union T.F_count_union.kp T.b_count_union (dl_pv (dv_call (ok_written_rows T) (L2.Room.mono (j := 4) hr (by decide)) bd.gu bd.tk hK.symm T.mg_written_rows T.F_written_rows.kp T.b_written_rows (dl_pv (dv_var 0) (dl_pv (dv_var 1) dl_nil))) dl_nil)))
      dss_nil))
theorem sc_has : FnScope ["guard", "lane", "low", "high", "step", "rest"] ["guard", "lane"] (defScope s_has) := ⟨rfl, rfl, rfl, by decide +kernel, rfl, by decide +kernel, by decide +kernel⟩
theorem ok_has (T : Txt P w K mg cl) : FnP P w K mg base cl 1 T.a_has T.fd_has ["guard", "lane"] PM.m_has :=
  fnp (N := ["guard", "lane", "low", "high", "step", "rest"]) (ps := ["guard", "lane"]) (k := 0) T.F_has sc_has rfl fun cdv A outer s H E C hK hcl hr bd => by
    subst hcl
    have nd := sc_has.nd
    have hu64 := hr.units
    have hu65 : (A.deeper (envOfC "has" (defScope s_has) s.heap.objs.size T.a_has cdv)).units + 65 < cLine := by have := hr.un; omega
    exact (dss_cons (ds_asg (dv_var 0) (dg_tup (n := 4) hK.symm bd.calm (dgs_cons (dg_name (i := 2) nd rfl (Or.inl rfl)) (dgs_cons (dg_name (i := 3) nd rfl (Or.inl rfl)) (dgs_cons (dg_name (i := 4) nd rfl (Or.inl rfl)) (dgs_cons (dg_name (i := 5) nd rfl (Or.inl rfl)) dgs_nil))))))
      (dss_cons (ds_ret (dv_and hK.symm (dv_chain op_le op_lt d_le d_lt (dv_var 2) (dv_var 1) (dv_var 3)) (dv_one (dv_cmp (op_eqD hu64) (d_eq hK.symm) (dv_op op_modN d_mod (dv_var 1) (dv_var 4)) (dv_var 5) (by rfl)))))
      dss_nil))
theorem sc_is_written : FnScope ["kernel", "array", "cell", "row"] ["kernel", "array", "cell"] (defScope s_is_written) := ⟨rfl, rfl, rfl, by decide +kernel, rfl, by decide +kernel, by decide +kernel⟩
theorem ok_is_written (T : Txt P w K mg cl) : FnP P w K mg base cl 5 T.a_is_written T.fd_is_written ["kernel", "array", "cell"] PM.m_is_written :=
  fnp (N := ["kernel", "array", "cell", "row"]) (ps := ["kernel", "array", "cell"]) (k := 4) T.F_is_written sc_is_written rfl fun cdv A outer s H E C hK hcl hr bd => by
    subst hcl
    have nd := sc_is_written.nd
    have hu64 := hr.units
    have hu65 : (A.deeper (envOfC "is_written" (defScope s_is_written) s.heap.objs.size T.a_is_written cdv)).units + 65 < cLine := by have := hr.un; omega
    exact (dss_cons (ds_expr (dv_call (ok_check_array T) (L2.Room.mono (j := 2) hr (by decide)) bd.gu bd.tk hK.symm T.mg_check_array T.F_check_array.kp T.b_check_array (dl_pv (dv_var 1) dl_nil)))
      (dss_cons (ds_ret (dv_callB (cr_any bd.calm) (c_any hK.symm) rfl T.z_any (by decide +kernel) (da_cons (dv_frz (do_lc (own := [("row", 3)]) bd.calm nd (blkOk_by (N := ["kernel", "array", "cell", "row"]) (sc := defScope s_is_written) (by decide +kernel)) (di_any hK.symm (dv_call (ok_written_rows T) (L2.Room.mono (j := 4) hr (by decide)) bd.gu bd.tk hK.symm T.mg_written_rows T.F_written_rows.kp T.b_written_rows (dl_pv (dv_var 0) (dl_pv (dv_var 1) dl_nil)))) (fun _ _ _ _ _ => by exact (dg_name (i := 3) nd rfl (by first | exact Or.inl rfl | exact Or.inr rfl) (hv := by rfl))) (fun _ _ _ _ _ => by exact dts_nil) (fun _ _ _ _ _ => by exact (dv_call (ok_has T) (by exact (L2.Room.mono (j := 1) hr (by decide))) (by exact bd.gu) takesN hK.symm T.mg_has T.F_has.kp T.b_has (dl_pv (dv_var 3) (dl_pv (dv_var 2) dl_nil)))))) da_nil)))
      dss_nil))
theorem sc_rows_below : FnScope ["rows", "cell", "found", "low", "high", "step", "rest", "row"] ["rows", "cell"] (defScope s_rows_below) := ⟨rfl, rfl, rfl, by decide +kernel, rfl, by decide +kernel, by decide +kernel⟩
theorem ok_rows_below (T : Txt P w K mg cl) : FnP P w K mg base cl 3 T.a_rows_below T.fd_rows_below ["rows", "cell"] PM.m_rows_below :=
  fnp (N := ["rows", "cell", "found", "low", "high", "step", "rest", "row"]) (ps := ["rows", "cell"]) (k := 2) T.F_rows_below sc_rows_below rfl fun cdv A outer s H E C hK hcl hr bd => by
    subst hcl
    have nd := sc_rows_below.nd
    have hu64 := hr.units
    have hu65 : (A.deeper (envOfC "rows_below" (defScope s_rows_below) s.heap.objs.size T.a_rows_below cdv)).units + 65 < cLine := by have := hr.un; omega
    exact (dss_cons (ds_lcV (i := 2) (own := [("low", 3), ("high", 4), ("step", 5), ("rest", 6)]) bd.calm nd rfl rfl (sw_true rfl rfl rfl (by decide +kernel)) (blkOk_by (N := ["rows", "cell", "found", "low", "high", "step", "rest", "row"]) (sc := defScope s_rows_below) (by decide +kernel)) (di_any hK.symm (dv_var 0)) (fun _ _ _ _ _ => by exact (dg_tup (n := 4) hK.symm (by exact bd.calm) (dgs_cons (dg_name (i := 3) nd rfl (by first | exact Or.inl rfl | exact Or.inr rfl) (hv := by rfl)) (dgs_cons (dg_name (i := 4) nd rfl (by first | exact Or.inl rfl | exact Or.inr rfl) (hv := by rfl)) (dgs_cons (dg_name (i := 5) nd rfl (by first | exact Or.inl rfl | exact Or.inr rfl) (hv := by rfl)) (dgs_cons (dg_name (i := 6) nd rfl (by first | exact Or.inl rfl | exact Or.inr rfl) (hv := by rfl)) dgs_nil)))))) (fun _ _ _ _ _ => by exact dts_nil) (fun _ _ _ _ _ => by exact (dv_tup (da_cons (dv_var 3) (da_cons (dv_callB (call_min2 (by exact bd.calm)) c_min2 rfl T.z_min (by decide +kernel) (da_cons (dv_var 4) (da_cons (dv_var 1) da_nil))) (da_cons (dv_var 5) (da_cons (dv_var 6) da_nil)))))))
      (dss_cons (ds_ret (dv_frz (do_lc (own := [("row", 7)]) bd.calm nd (blkOk_by (N := ["rows", "cell", "found", "low", "high", "step", "rest", "row"]) (sc := defScope s_rows_below) (by decide +kernel)) (di_any hK.symm (dv_var 2)) (fun _ _ _ _ _ => by exact (dg_name (i := 7) nd rfl (by first | exact Or.inl rfl | exact Or.inr rfl) (hv := by rfl))) (fun _ _ _ _ _ => by exact (dts_one (dt_of (dw_and (dt_cmp op_lt d_lt (dv_ix hK.symm (dv_var 7) dv_int (fun _ _ => rfl)) (dv_ix hK.symm (dv_var 7) dv_int (fun _ _ => rfl)) (by rfl)) (dw_and1 (dt_cmp op_gt d_gt (dv_call (ok_lanes_of T) (by exact (L2.Room.mono (j := 2) hr (by decide))) (by exact bd.gu) takesN hK.symm T.mg_lanes_of T.F_lanes_of.kp T.b_lanes_of (dl_pv (dv_var 7) dl_nil)) dv_int (by rfl))))))) (fun _ _ _ _ _ => by exact (dv_var 7)))))
      dss_nil))
theorem sc_nth_written : FnScope ["kernel", "array", "number", "rows", "low", "high", "middle", "row"] ["kernel", "array", "number"] (defScope s_nth_written) := ⟨rfl, rfl, rfl, by decide +kernel, rfl, by decide +kernel, by decide +kernel⟩
theorem ok_nth_written (T : Txt P w K mg cl) : FnP P w K mg base cl 19 T.a_nth_written T.fd_nth_written ["kernel", "array", "number"] PM.m_nth_written :=
  fnp (N := ["kernel", "array", "number", "rows", "low", "high", "middle", "row"]) (ps := ["kernel", "array", "number"]) (k := 18) T.F_nth_written sc_nth_written rfl fun cdv A outer s H E C hK hcl hr bd => by
    subst hcl
    have nd := sc_nth_written.nd
    have hu64 := hr.units
    have hu65 : (A.deeper (envOfC "nth_written" (defScope s_nth_written) s.heap.objs.size T.a_nth_written cdv)).units + 65 < cLine := by have := hr.un; omega
    exact (dss_cons (ds_expr (dv_call (ok_check_array T) (L2.Room.mono (j := 2) hr (by decide)) bd.gu bd.tk hK.symm T.mg_check_array T.F_check_array.kp T.b_check_array (dl_pv (dv_var 1) dl_nil)))
      (dss_cons (ds_set (i := 3) nd rfl (Or.inl rfl) (dv_call (ok_written_rows T) (L2.Room.mono (j := 4) hr (by decide)) bd.gu bd.tk hK.symm T.mg_written_rows T.F_written_rows.kp T.b_written_rows (dl_pv (dv_var 0) (dl_pv (dv_var 1) dl_nil))))
      (dss_cons (ds_if (dt_not (dt_chain op_le op_lt d_le d_lt dv_int (dv_var 2) (dv_call (ok_count_union T) (L2.Room.mono (j := 18) hr (by decide)) bd.gu bd.tk hK.symm T.mg_count_union T.F_count_union.kp T.b_count_union (dl_pv (dv_var 3) dl_nil))))
      (dss_cons (ds_raise bd.calm T.x_InvalidNumber hr bd.tk rfl (dv_var 2))
      dss_nil)
      dss_nil)
      (dss_cons (ds_par (i := 4) (j := 5) bd.calm nd rfl rfl (by decide) rfl rfl (da_cons (dv_callB (cr_min bd.calm) (c_min1 hK.symm) rfl T.z_min (by decide +kernel) (da_cons (dv_frz (do_lc (own := [("row", 7)]) bd.calm nd (blkOk_by (N := ["kernel", "array", "number", "rows", "low", "high", "middle", "row"]) (sc := defScope s_nth_written) (by decide +kernel)) (di_any hK.symm (dv_var 3)) (fun _ _ _ _ _ => by exact (dg_name (i := 7) nd rfl (by first | exact Or.inl rfl | exact Or.inr rfl) (hv := by rfl))) (fun _ _ _ _ _ => by exact dts_nil) (fun _ _ _ _ _ => by exact (dv_ix hK.symm (dv_var 7) dv_int (fun _ _ => rfl))))) da_nil)) (da_cons (dv_callB (cr_max bd.calm) (c_max1 hK.symm) rfl T.z_max (by decide +kernel) (da_cons (dv_frz (do_lc (own := [("row", 7)]) bd.calm nd (blkOk_by (N := ["kernel", "array", "number", "rows", "low", "high", "middle", "row"]) (sc := defScope s_nth_written) (by decide +kernel)) (di_any hK.symm (dv_var 3)) (fun _ _ _ _ _ => by exact (dg_name (i := 7) nd rfl (by first | exact Or.inl rfl | exact Or.inr rfl) (hv := by rfl))) (fun _ _ _ _ _ => by exact dts_nil) (fun _ _ _ _ _ => by exact (dv_ix hK.symm (dv_var 7) dv_int (fun _ _ => rfl))))) da_nil)) da_nil)) rfl)
      (dss_cons (ds_while bd.own (dt_cmp op_lt d_lt (dv_var 4) (dv_var 5) (by rfl))
      (dss_cons (ds_set (i := 6) nd rfl (Or.inl rfl) (dv_op op_fdivA d_fdiv (dv_op op_addA (d_add hK.symm) (dv_var 4) (dv_var 5)) dv_int))
      (dss_cons (ds_if (dt_cmp op_gt d_gt (dv_call (ok_count_union T) (L2.Room.mono (j := 18) hr (by decide)) bd.gu bd.tk hK.symm T.mg_count_union T.F_count_union.kp T.b_count_union (dl_pv (dv_call (ok_rows_below T) (L2.Room.mono (j := 3) hr (by decide)) bd.gu bd.tk hK.symm T.mg_rows_below T.F_rows_below.kp T.b_rows_below (dl_pv (dv_var 3) (dl_pv (dv_op op_addA (d_add hK.symm) (dv_var 6) dv_int) dl_nil))) dl_nil)) (dv_var 2) (by rfl))
      (dss_cons (ds_set (i := 5) nd rfl (Or.inl rfl) (dv_var 6))
      dss_nil)
      (dss_cons (ds_set (i := 4) nd rfl (Or.inl rfl) (dv_op op_addA (d_add hK.symm) (dv_var 6) dv_int))
      dss_nil))
      dss_nil)))
      (dss_cons (ds_ret (dv_var 4))
      dss_nil))))))
theorem sc_written_below : FnScope ["kernel", "array", "cell"] ["kernel", "array", "cell"] (defScope s_written_below) := ⟨rfl, rfl, rfl, by decide +kernel, rfl, by decide +kernel, by decide +kernel⟩
theorem ok_written_below (T : Txt P w K mg cl) : FnP P w K mg base cl 19 T.a_written_below T.fd_written_below ["kernel", "array", "cell"] PM.m_written_below :=
  fnp (N := ["kernel", "array", "cell"]) (ps := ["kernel", "array", "cell"]) (k := 18) T.F_written_below sc_written_below rfl fun cdv A outer s H E C hK hcl hr bd => by
    subst hcl
    have nd := sc_written_below.nd
    have hu64 := hr.units
    have hu65 : (A.deeper (envOfC "written_below" (defScope s_written_below) s.heap.objs.size T.a_written_below cdv)).units + 65 < cLine := by have := hr.un; omega
    exact (dss_cons (ds_expr (dv_call (ok_check_array T) (L2.Room.mono (j := 2) hr (by decide)) bd.gu bd.tk hK.symm T.mg_check_array T.F_check_array.kp T.b_check_array (dl_pv (dv_var 1) dl_nil)))
      (dss_cons (ds_ret (dv_call (ok_count_union T) (L2.Room.mono (j := 18) hr (by decide)) bd.gu bd.tk hK.symm T.mg_count_union T.F_count_union.kp T.b_count_union (dl_pv (dv_call (ok_rows_below T) (L2.Room.mono (j := 3) hr (by decide)) bd.gu bd.tk hK.symm T.mg_rows_below T.F_rows_below.kp T.b_rows_below (dl_pv (dv_call (ok_written_rows T) (L2.Room.mono (j := 4) hr (by decide)) bd.gu bd.tk hK.symm T.mg_written_rows T.F_written_rows.kp T.b_written_rows (dl_pv (dv_var 0) (dl_pv (dv_var 1) dl_nil))) (dl_pv (dv_var 2) dl_nil))) dl_nil)))
      dss_nil))
theorem sc__law_told : FnScope ["pick", "one", "name", "spot", "problem"] ["pick", "one", "name", "spot"] (defScope s__law_told) := ⟨rfl, rfl, rfl, by decide +kernel, rfl, by decide +kernel, by decide +kernel⟩
theorem ok__law_told (T : Txt P w K mg cl) : FnP P w K mg base cl 20 T.a__law_told T.fd__law_told ["pick", "one", "name", "spot"] m__law_told :=
  fnp (N := ["pick", "one", "name", "spot", "problem"]) (ps := ["pick", "one", "name", "spot"]) (k := 19) T.F__law_told sc__law_told rfl fun cdv A outer s H E C hK hcl hr bd => by
    subst hcl
    have nd := sc__law_told.nd
    have hu64 := hr.units
    have hu65 : (A.deeper (envOfC "_law_told" (defScope s__law_told) s.heap.objs.size T.a__law_told cdv)).units + 65 < cLine := by have := hr.un; omega
    exact (dss_cons (PLH.ds_tryR (i := 4) (k := 1) bd T.xk hK.symm rfl rfl rfl nd rfl rfl rfl T.ge_StrideError (ok__law_kind_of T) (L2.Room.mono (j := 1) hr (by decide)) T.b__law_kind_of rfl T.mg__law_kind_of T.F__law_kind_of.kp (fun _ _ _ bd => by exact (dss_cons (ds_if (dt_cmp (op_eqD hu64) (d_eq hK.symm) (dv_var 0) dv_int (by rfl))
      (dss_cons (ds_expr (dv_call (ok_count_written T) (L2.Room.mono (j := 19) hr (by decide)) bd.gu bd.tk hK.symm T.mg_count_written T.F_count_written.kp T.b_count_written (dl_pv (dv_var 1) (dl_pv (dv_var 2) dl_nil))))
      dss_nil)
      (dss_cons (ds_if (dt_cmp (op_eqD hu64) (d_eq hK.symm) (dv_var 0) dv_int (by rfl))
      (dss_cons (ds_expr (dv_call (ok_written_below T) (L2.Room.mono (j := 19) hr (by decide)) bd.gu bd.tk hK.symm T.mg_written_below T.F_written_below.kp T.b_written_below (dl_pv (dv_var 1) (dl_pv (dv_var 2) (dl_pv (dv_var 3) dl_nil)))))
      dss_nil)
      (dss_cons (ds_if (dt_cmp (op_eqD hu64) (d_eq hK.symm) (dv_var 0) dv_int (by rfl))
      (dss_cons (ds_expr (dv_call (ok_is_written T) (L2.Room.mono (j := 5) hr (by decide)) bd.gu bd.tk hK.symm T.mg_is_written T.F_is_written.kp T.b_is_written (dl_pv (dv_var 1) (dl_pv (dv_var 2) (dl_pv (dv_var 3) dl_nil)))))
      dss_nil)
      (dss_cons (ds_expr (dv_call (ok_nth_written T) (L2.Room.mono (j := 19) hr (by decide)) bd.gu bd.tk hK.symm T.mg_nth_written T.F_nth_written.kp T.b_nth_written (dl_pv (dv_var 1) (dl_pv (dv_var 2) (dl_pv (dv_var 3) dl_nil)))))
      dss_nil))
      dss_nil))
      dss_nil))
      dss_nil)))
      (dss_cons (ds_ret dv_non)
      dss_nil))
theorem sc_law : FnScope ["script", "source", "turn", "many", "size", "own", "one", "some", "name", "spot", "due", "more", "pick"] ["script"] (defScope s_law) := ⟨rfl, rfl, rfl, by decide +kernel, rfl, by decide +kernel, by decide +kernel⟩
theorem ok_law (T : Txt P w K mg cl) : FnP P w K mg base cl 21 T.a_law T.fd_law ["script"] m_law :=
  fnp (N := ["script", "source", "turn", "many", "size", "own", "one", "some", "name", "spot", "due", "more", "pick"]) (ps := ["script"]) (k := 20) T.F_law sc_law rfl fun cdv A outer s H E C hK hcl hr bd => by
    subst hcl
    have nd := sc_law.nd
    have hu64 := hr.units
    have hu65 : (A.deeper (envOfC "law" (defScope s_law) s.heap.objs.size T.a_law cdv)).units + 65 < cLine := by have := hr.un; omega
    exact (dss_cons (ds_setO (i := 1) nd rfl (Or.inr rfl) (do_call (ok__law_source T) (L2.Room.mono (j := 1) hr (by decide)) bd.gu bd.tk hK.symm T.mg__law_source T.F__law_source.kp T.b__law_source (dl_pv (dv_var 0) dl_nil)))
      (dss_cons (ds_for bd.own bd.calm (di_rangeW1 rfl T.z_range (da_cons (dv_op op_addA (d_add hK.symm) dv_int (dv_callB (call_min2 bd.calm) c_min2 rfl T.z_min (by decide +kernel) (da_cons dv_int (da_cons (dv_callB call_len (c_len hK.symm) rfl T.z_len (by decide +kernel) (da_cons (dv_var 0) da_nil)) da_nil)))) da_nil)) (dg_name (i := 2) nd rfl (Or.inl rfl))
      (dss_cons (ds_asg (dv_tup (da_cons (dv_op op_addA (d_add hK.symm) dv_int (dv_call (ok__law_draw T) (L2.Room.mono (j := 1) hr (by decide)) bd.gu bd.tk hK.symm T.mg__law_draw T.F__law_draw.kp T.b__law_draw (dl_sl 1 (dl_pv dv_int dl_nil)))) (da_cons (dv_call (ok__law_draw T) (L2.Room.mono (j := 1) hr (by decide)) bd.gu bd.tk hK.symm T.mg__law_draw T.F__law_draw.kp T.b__law_draw (dl_sl 1 (dl_pv dv_int dl_nil))) da_nil))) (dg_tup (n := 2) hK.symm bd.calm (dgs_cons (dg_name (i := 3) nd rfl (Or.inr rfl)) (dgs_cons (dg_name (i := 4) nd rfl (Or.inl rfl)) dgs_nil))))
      (dss_cons (ds_set (i := 5) nd rfl (Or.inr rfl) (dv_call (ok__law_name T) (L2.Room.mono (j := 2) hr (by decide)) bd.gu bd.tk hK.symm T.mg__law_name T.F__law_name.kp T.b__law_name (dl_sl 1 dl_nil)))
      (dss_cons (ds_set (i := 6) nd rfl (Or.inr rfl) (dv_make1 (c := "Kernel") T.mk_Kernel (ok_Kernel___init__ T) (L2.Room.mono (j := 4) hr (by decide)) bd.gu bd.tk hK.symm T.mg_Kernel T.bd_Kernel___init__ (da_cons (dv_var 3) (da_cons (dv_frz (do_lc (own := [("more", 11)]) bd.calm nd (blkOk_by (N := ["script", "source", "turn", "many", "size", "own", "one", "some", "name", "spot", "due", "more", "pick"]) (sc := defScope s_law) (by decide +kernel)) (di_rangeW1 rfl T.z_range (da_cons (dv_var 4) da_nil)) (fun _ _ _ _ _ => by exact (dg_name (i := 11) nd rfl (by first | exact Or.inl rfl | exact Or.inr rfl) (hv := by rfl))) (fun _ _ _ _ _ => by exact dts_nil) (fun _ _ _ _ _ => by exact (dv_call (ok__law_statement T) (by exact (L2.Room.mono (j := 3) hr (by decide))) (by exact bd.gu) takesN hK.symm T.mg__law_statement T.F__law_statement.kp T.b__law_statement (dl_sl 1 (dl_pv (dv_var 3) (dl_pv (dv_frz (do_lst (da_cons dv_str (da_cons (dv_var 5) da_nil)))) dl_nil))))))) da_nil))))
      (dss_cons (ds_set (i := 7) nd rfl (Or.inl rfl) (dv_frz (do_lst (da_cons dv_str (da_cons (dv_var 5) (da_cons (dv_call (ok__law_name T) (L2.Room.mono (j := 2) hr (by decide)) bd.gu bd.tk hK.symm T.mg__law_name T.F__law_name.kp T.b__law_name (dl_sl 1 dl_nil)) (da_cons dv_str (da_cons dv_str (da_cons dv_str (da_cons dv_str (da_cons dv_str (da_cons dv_str (da_cons dv_str da_nil)))))))))))))
      (dss_cons (ds_set (i := 8) nd rfl (Or.inr rfl) (dv_ix hK.symm (dv_var 7) (dv_call (ok__law_draw T) (L2.Room.mono (j := 1) hr (by decide)) bd.gu bd.tk hK.symm T.mg__law_draw T.F__law_draw.kp T.b__law_draw (dl_sl 1 (dl_pv dv_int dl_nil))) (fun _ _ => rfl)))
      (dss_cons (ds_set (i := 9) nd rfl (Or.inr rfl) (dv_ix hK.symm (dv_frz (do_lst (da_cons (dv_call (ok__law_draw T) (L2.Room.mono (j := 1) hr (by decide)) bd.gu bd.tk hK.symm T.mg__law_draw T.F__law_draw.kp T.b__law_draw (dl_sl 1 (dl_pv dv_int dl_nil))) (da_cons (dv_un un_neg d_neg dv_int) (da_cons (dv_op op_powA d_pow dv_int dv_int) (da_cons (dv_op op_sub d_sub dv_int (dv_op op_powA d_pow dv_int dv_int)) da_nil)))))) (dv_call (ok__law_draw T) (L2.Room.mono (j := 1) hr (by decide)) bd.gu bd.tk hK.symm T.mg__law_draw T.F__law_draw.kp T.b__law_draw (dl_sl 1 (dl_pv dv_int dl_nil))) (fun _ _ => rfl)))
      (dss_cons (ds_set (i := 10) nd rfl (Or.inl rfl) (dv_if (dt_tru hK.symm (dv_call (ok__law_is_name T) (L2.Room.mono (j := 1) hr (by decide)) bd.gu bd.tk hK.symm T.mg__law_is_name T.F__law_is_name.kp T.b__law_is_name (dl_pv (dv_var 8) dl_nil))) dv_non (dv_tup (da_cons dv_str (da_cons (dv_var 8) da_nil)))))
      (dss_cons (ds_if (dt_cmp (op_neD hu64) (d_ne hK.symm) (dv_frz (do_lc (own := [("pick", 12)]) bd.calm nd (blkOk_by (N := ["script", "source", "turn", "many", "size", "own", "one", "some", "name", "spot", "due", "more", "pick"]) (sc := defScope s_law) (by decide +kernel)) (di_rangeW1 rfl T.z_range (da_cons dv_int da_nil)) (fun _ _ _ _ _ => by exact (dg_name (i := 12) nd rfl (by first | exact Or.inl rfl | exact Or.inr rfl) (hv := by rfl))) (fun _ _ _ _ _ => by exact dts_nil) (fun _ _ _ _ _ => by exact (dv_call (ok__law_told T) (by exact (L2.Room.mono (j := 20) hr (by decide))) (by exact bd.gu) takesN hK.symm T.mg__law_told T.F__law_told.kp T.b__law_told (dl_pv (dv_var 12) (dl_pv (dv_var 6) (dl_pv (dv_var 8) (dl_pv (dv_var 9) dl_nil)))))))) (dv_op op_mulA d_mul (dv_frz (do_lst (da_cons (dv_var 10) da_nil))) dv_int) (by rfl))
      (dss_cons (ds_ret dv_bl)
      dss_nil)
      dss_nil)
      (dss_cons (ds_if (dt_of (dw_and (dt_cmp op_isN d_is (dv_var 10) dv_non (by rfl)) (dw_and1 (dt_not (dt_chain op_le op_lt d_le d_lt dv_int (dv_var 9) (dv_call (ok_count_written T) (L2.Room.mono (j := 19) hr (by decide)) bd.gu bd.tk hK.symm T.mg_count_written T.F_count_written.kp T.b_count_written (dl_pv (dv_var 6) (dl_pv (dv_var 8) dl_nil))))))))
      (dss_cons (ds_set (i := 10) nd rfl (Or.inl rfl) (dv_tup (da_cons dv_str (da_cons (dv_var 9) da_nil))))
      dss_nil)
      dss_nil)
      (dss_cons (ds_if (dt_cmp (op_neD hu64) (d_ne hK.symm) (dv_call (ok__law_told T) (L2.Room.mono (j := 20) hr (by decide)) bd.gu bd.tk hK.symm T.mg__law_told T.F__law_told.kp T.b__law_told (dl_pv dv_int (dl_pv (dv_var 6) (dl_pv (dv_var 8) (dl_pv (dv_var 9) dl_nil))))) (dv_var 10) (by rfl))
      (dss_cons (ds_ret dv_bl)
      dss_nil)
      dss_nil)
      dss_nil)))))))))))
      (dss_cons (ds_ret (dv_cmp (op_eqD hu64) (d_eq hK.symm) (dv_call (ok__law_told T) (L2.Room.mono (j := 20) hr (by decide)) bd.gu bd.tk hK.symm T.mg__law_told T.F__law_told.kp T.b__law_told (dl_pv dv_int (dl_pv (dv_make1 (c := "Kernel") T.mk_Kernel (ok_Kernel___init__ T) (L2.Room.mono (j := 4) hr (by decide)) bd.gu bd.tk hK.symm T.mg_Kernel T.bd_Kernel___init__ (da_cons dv_int (da_cons (dv_frz (do_lst da_nil)) da_nil))) (dl_pv dv_str (dl_pv dv_int dl_nil))))) (dv_tup (da_cons dv_str (da_cons dv_int da_nil))) (by rfl)))
      dss_nil)))
end
/-! ### the end -/
def txt_of {prog : Program} {w : World} {K : PySem.W.Frag} {h : Heap} {mg : Str → Option Value} (X : K.In h) (G : h.Ns mainGlobals mg)
    {C_Kernel : Addr} (aC_Kernel : PySem.W.nsIn K mainGlobals "Kernel" = some (some (.ref C_Kernel)))
    {f0 : Addr} {oc0 kV0 dc0 pm0 cd0 ct0 : Value} {od0 an0 : Option Addr} {sl0 : Array (Option Value)} (a0 : PySem.W.nsIn K mainGlobals "check_barriers" = some (some (.ref f0))) (l0 : K.lookup f0 = some ⟨oc0, od0, .func (PySem.W.fnOf "check_barriers" "check_barriers" (defArgs s_check_barriers) (defBody s_check_barriers) (defScope s_check_barriers) .none kV0 dc0 pm0 an0 cd0 ct0), sl0⟩) (c0 : PySem.W.codeIn K cd0 "check_barriers" = true) (k0 : PySem.W.keepIn K (.ref f0) = true)
    {f1 : Addr} {oc1 kV1 dc1 pm1 cd1 ct1 : Value} {od1 an1 : Option Addr} {sl1 : Array (Option Value)} (a1 : PySem.W.nsIn K mainGlobals "is_array" = some (some (.ref f1))) (l1 : K.lookup f1 = some ⟨oc1, od1, .func (PySem.W.fnOf "is_array" "is_array" (defArgs s_is_array) (defBody s_is_array) (defScope s_is_array) .none kV1 dc1 pm1 an1 cd1 ct1), sl1⟩) (c1 : PySem.W.codeIn K cd1 "is_array" = true) (k1 : PySem.W.keepIn K (.ref f1) = true)
    {f2 : Addr} {oc2 kV2 dc2 pm2 cd2 ct2 : Value} {od2 an2 : Option Addr} {sl2 : Array (Option Value)} (a2 : PySem.W.nsIn K mainGlobals "is_guard" = some (some (.ref f2))) (l2 : K.lookup f2 = some ⟨oc2, od2, .func (PySem.W.fnOf "is_guard" "is_guard" (defArgs s_is_guard) (defBody s_is_guard) (defScope s_is_guard) .none kV2 dc2 pm2 an2 cd2 ct2), sl2⟩) (c2 : PySem.W.codeIn K cd2 "is_guard" = true) (k2 : PySem.W.keepIn K (.ref f2) = true)
    {f3 : Addr} {oc3 kV3 dc3 pm3 cd3 ct3 : Value} {od3 an3 : Option Addr} {sl3 : Array (Option Value)} (a3 : PySem.W.nsIn K mainGlobals "is_statement" = some (some (.ref f3))) (l3 : K.lookup f3 = some ⟨oc3, od3, .func (PySem.W.fnOf "is_statement" "is_statement" (defArgs s_is_statement) (defBody s_is_statement) (defScope s_is_statement) .none kV3 dc3 pm3 an3 cd3 ct3), sl3⟩) (c3 : PySem.W.codeIn K cd3 "is_statement" = true) (k3 : PySem.W.keepIn K (.ref f3) = true)
    {f4 : Addr} {oc4 kV4 dc4 pm4 cd4 ct4 : Value} {od4 an4 : Option Addr} {sl4 : Array (Option Value)} {T4 : Addr} (a4 : PySem.W.findIn K (.ref C_Kernel) "__init__" = some (some (.ref f4))) (l4 : K.lookup f4 = some ⟨oc4, od4, .func (PySem.W.fnOf "__init__" "Kernel.__init__" (defArgs s_Kernel___init__) (defBody s_Kernel___init__) (defScope s_Kernel___init__) (.ref T4) kV4 dc4 pm4 an4 cd4 ct4), sl4⟩) (c4 : PySem.W.codeIn K cd4 "Kernel.__init__" = true) (k4 : PySem.W.keepIn K (.ref f4) = true)
    {oT4 : Value} {dT4 de4 : Option Addr} {nT4 ne4 : Nat} {sT4 se4 : Array (Option Value)} {e4 : Addr} (m4 : K.lookup T4 = some ⟨oT4, dT4, .seq #[.ref e4] nT4, sT4⟩) (o4 : K.lookup e4 = some ⟨.type "tuple", de4, .seq #[] ne4, se4⟩)
    {f5 : Addr} {oc5 kV5 dc5 pm5 cd5 ct5 : Value} {od5 an5 : Option Addr} {sl5 : Array (Option Value)} (a5 : PySem.W.nsIn K mainGlobals "_law_draw" = some (some (.ref f5))) (l5 : K.lookup f5 = some ⟨oc5, od5, .func (PySem.W.fnOf "_law_draw" "_law_draw" (defArgs s__law_draw) (defBody s__law_draw) (defScope s__law_draw) .none kV5 dc5 pm5 an5 cd5 ct5), sl5⟩) (c5 : PySem.W.codeIn K cd5 "_law_draw" = true) (k5 : PySem.W.keepIn K (.ref f5) = true)
    {f6 : Addr} {oc6 kV6 dc6 pm6 cd6 ct6 : Value} {od6 an6 : Option Addr} {sl6 : Array (Option Value)} (a6 : PySem.W.nsIn K mainGlobals "_law_is_name" = some (some (.ref f6))) (l6 : K.lookup f6 = some ⟨oc6, od6, .func (PySem.W.fnOf "_law_is_name" "_law_is_name" (defArgs s__law_is_name) (defBody s__law_is_name) (defScope s__law_is_name) .none kV6 dc6 pm6 an6 cd6 ct6), sl6⟩) (c6 : PySem.W.codeIn K cd6 "_law_is_name" = true) (k6 : PySem.W.keepIn K (.ref f6) = true)
    {f7 : Addr} {oc7 kV7 dc7 pm7 cd7 ct7 : Value} {od7 an7 : Option Addr} {sl7 : Array (Option Value)} (a7 : PySem.W.nsIn K mainGlobals "_law_name" = some (some (.ref f7))) (l7 : K.lookup f7 = some ⟨oc7, od7, .func (PySem.W.fnOf "_law_name" "_law_name" (defArgs s__law_name) (defBody s__law_name) (defScope s__law_name) .none kV7 dc7 pm7 an7 cd7 ct7), sl7⟩) (c7 : PySem.W.codeIn K cd7 "_law_name" = true) (k7 : PySem.W.keepIn K (.ref f7) = true)
    {f8 : Addr} {oc8 kV8 dc8 pm8 cd8 ct8 : Value} {od8 an8 : Option Addr} {sl8 : Array (Option Value)} (a8 : PySem.W.nsIn K mainGlobals "_law_source" = some (some (.ref f8))) (l8 : K.lookup f8 = some ⟨oc8, od8, .func (PySem.W.fnOf "_law_source" "_law_source" (defArgs s__law_source) (defBody s__law_source) (defScope s__law_source) .none kV8 dc8 pm8 an8 cd8 ct8), sl8⟩) (c8 : PySem.W.codeIn K cd8 "_law_source" = true) (k8 : PySem.W.keepIn K (.ref f8) = true)
    {f9 : Addr} {oc9 kV9 dc9 pm9 cd9 ct9 : Value} {od9 an9 : Option Addr} {sl9 : Array (Option Value)} (a9 : PySem.W.nsIn K mainGlobals "_law_cell" = some (some (.ref f9))) (l9 : K.lookup f9 = some ⟨oc9, od9, .func (PySem.W.fnOf "_law_cell" "_law_cell" (defArgs s__law_cell) (defBody s__law_cell) (defScope s__law_cell) .none kV9 dc9 pm9 an9 cd9 ct9), sl9⟩) (c9 : PySem.W.codeIn K cd9 "_law_cell" = true) (k9 : PySem.W.keepIn K (.ref f9) = true)
    {f10 : Addr} {oc10 kV10 dc10 pm10 cd10 ct10 : Value} {od10 an10 : Option Addr} {sl10 : Array (Option Value)} (a10 : PySem.W.nsIn K mainGlobals "_law_guard" = some (some (.ref f10))) (l10 : K.lookup f10 = some ⟨oc10, od10, .func (PySem.W.fnOf "_law_guard" "_law_guard" (defArgs s__law_guard) (defBody s__law_guard) (defScope s__law_guard) .none kV10 dc10 pm10 an10 cd10 ct10), sl10⟩) (c10 : PySem.W.codeIn K cd10 "_law_guard" = true) (k10 : PySem.W.keepIn K (.ref f10) = true)
    {f11 : Addr} {oc11 kV11 dc11 pm11 cd11 ct11 : Value} {od11 an11 : Option Addr} {sl11 : Array (Option Value)} (a11 : PySem.W.nsIn K mainGlobals "_law_statement" = some (some (.ref f11))) (l11 : K.lookup f11 = some ⟨oc11, od11, .func (PySem.W.fnOf "_law_statement" "_law_statement" (defArgs s__law_statement) (defBody s__law_statement) (defScope s__law_statement) .none kV11 dc11 pm11 an11 cd11 ct11), sl11⟩) (c11 : PySem.W.codeIn K cd11 "_law_statement" = true) (k11 : PySem.W.keepIn K (.ref f11) = true)
    {f12 : Addr} {oc12 kV12 dc12 pm12 cd12 ct12 : Value} {od12 an12 : Option Addr} {sl12 : Array (Option Value)} (a12 : PySem.W.nsIn K mainGlobals "_law_kind_of" = some (some (.ref f12))) (l12 : K.lookup f12 = some ⟨oc12, od12, .func (PySem.W.fnOf "_law_kind_of" "_law_kind_of" (defArgs s__law_kind_of) (defBody s__law_kind_of) (defScope s__law_kind_of) .none kV12 dc12 pm12 an12 cd12 ct12), sl12⟩) (c12 : PySem.W.codeIn K cd12 "_law_kind_of" = true) (k12 : PySem.W.keepIn K (.ref f12) = true)
    {f13 : Addr} {oc13 kV13 dc13 pm13 cd13 ct13 : Value} {od13 an13 : Option Addr} {sl13 : Array (Option Value)} (a13 : PySem.W.nsIn K mainGlobals "check_array" = some (some (.ref f13))) (l13 : K.lookup f13 = some ⟨oc13, od13, .func (PySem.W.fnOf "check_array" "check_array" (defArgs s_check_array) (defBody s_check_array) (defScope s_check_array) .none kV13 dc13 pm13 an13 cd13 ct13), sl13⟩) (c13 : PySem.W.codeIn K cd13 "check_array" = true) (k13 : PySem.W.keepIn K (.ref f13) = true)
    {f14 : Addr} {oc14 kV14 dc14 pm14 cd14 ct14 : Value} {od14 an14 : Option Addr} {sl14 : Array (Option Value)} (a14 : PySem.W.nsIn K mainGlobals "first_of" = some (some (.ref f14))) (l14 : K.lookup f14 = some ⟨oc14, od14, .func (PySem.W.fnOf "first_of" "first_of" (defArgs s_first_of) (defBody s_first_of) (defScope s_first_of) .none kV14 dc14 pm14 an14 cd14 ct14), sl14⟩) (c14 : PySem.W.codeIn K cd14 "first_of" = true) (k14 : PySem.W.keepIn K (.ref f14) = true)
    {f15 : Addr} {oc15 kV15 dc15 pm15 cd15 ct15 : Value} {od15 an15 : Option Addr} {sl15 : Array (Option Value)} (a15 : PySem.W.nsIn K mainGlobals "lanes_of" = some (some (.ref f15))) (l15 : K.lookup f15 = some ⟨oc15, od15, .func (PySem.W.fnOf "lanes_of" "lanes_of" (defArgs s_lanes_of) (defBody s_lanes_of) (defScope s_lanes_of) .none kV15 dc15 pm15 an15 cd15 ct15), sl15⟩) (c15 : PySem.W.codeIn K cd15 "lanes_of" = true) (k15 : PySem.W.keepIn K (.ref f15) = true)
    {f16 : Addr} {oc16 kV16 dc16 pm16 cd16 ct16 : Value} {od16 an16 : Option Addr} {sl16 : Array (Option Value)} (a16 : PySem.W.nsIn K mainGlobals "bezout" = some (some (.ref f16))) (l16 : K.lookup f16 = some ⟨oc16, od16, .func (PySem.W.fnOf "bezout" "bezout" (defArgs s_bezout) (defBody s_bezout) (defScope s_bezout) .none kV16 dc16 pm16 an16 cd16 ct16), sl16⟩) (c16 : PySem.W.codeIn K cd16 "bezout" = true) (k16 : PySem.W.keepIn K (.ref f16) = true)
    {f17 : Addr} {oc17 kV17 dc17 pm17 cd17 ct17 : Value} {od17 an17 : Option Addr} {sl17 : Array (Option Value)} (a17 : PySem.W.nsIn K mainGlobals "meeting" = some (some (.ref f17))) (l17 : K.lookup f17 = some ⟨oc17, od17, .func (PySem.W.fnOf "meeting" "meeting" (defArgs s_meeting) (defBody s_meeting) (defScope s_meeting) .none kV17 dc17 pm17 an17 cd17 ct17), sl17⟩) (c17 : PySem.W.codeIn K cd17 "meeting" = true) (k17 : PySem.W.keepIn K (.ref f17) = true)
    {f18 : Addr} {oc18 kV18 dc18 pm18 cd18 ct18 : Value} {od18 an18 : Option Addr} {sl18 : Array (Option Value)} (a18 : PySem.W.nsIn K mainGlobals "count_union" = some (some (.ref f18))) (l18 : K.lookup f18 = some ⟨oc18, od18, .func (PySem.W.fnOf "count_union" "count_union" (defArgs s_count_union) (defBody s_count_union) (defScope s_count_union) .none kV18 dc18 pm18 an18 cd18 ct18), sl18⟩) (c18 : PySem.W.codeIn K cd18 "count_union" = true) (k18 : PySem.W.keepIn K (.ref f18) = true)
    {f19 : Addr} {oc19 kV19 dc19 pm19 cd19 ct19 : Value} {od19 an19 : Option Addr} {sl19 : Array (Option Value)} (a19 : PySem.W.nsIn K mainGlobals "accesses_in" = some (some (.ref f19))) (l19 : K.lookup f19 = some ⟨oc19, od19, .func (PySem.W.fnOf "accesses_in" "accesses_in" (defArgs s_accesses_in) (defBody s_accesses_in) (defScope s_accesses_in) .none kV19 dc19 pm19 an19 cd19 ct19), sl19⟩) (c19 : PySem.W.codeIn K cd19 "accesses_in" = true) (k19 : PySem.W.keepIn K (.ref f19) = true)
    {f20 : Addr} {oc20 kV20 dc20 pm20 cd20 ct20 : Value} {od20 an20 : Option Addr} {sl20 : Array (Option Value)} (a20 : PySem.W.nsIn K mainGlobals "access_list" = some (some (.ref f20))) (l20 : K.lookup f20 = some ⟨oc20, od20, .func (PySem.W.fnOf "access_list" "access_list" (defArgs s_access_list) (defBody s_access_list) (defScope s_access_list) .none kV20 dc20 pm20 an20 cd20 ct20), sl20⟩) (c20 : PySem.W.codeIn K cd20 "access_list" = true) (k20 : PySem.W.keepIn K (.ref f20) = true)
    {f21 : Addr} {oc21 kV21 dc21 pm21 cd21 ct21 : Value} {od21 an21 : Option Addr} {sl21 : Array (Option Value)} (a21 : PySem.W.nsIn K mainGlobals "cells_of" = some (some (.ref f21))) (l21 : K.lookup f21 = some ⟨oc21, od21, .func (PySem.W.fnOf "cells_of" "cells_of" (defArgs s_cells_of) (defBody s_cells_of) (defScope s_cells_of) .none kV21 dc21 pm21 an21 cd21 ct21), sl21⟩) (c21 : PySem.W.codeIn K cd21 "cells_of" = true) (k21 : PySem.W.keepIn K (.ref f21) = true)
    {f22 : Addr} {oc22 kV22 dc22 pm22 cd22 ct22 : Value} {od22 an22 : Option Addr} {sl22 : Array (Option Value)} (a22 : PySem.W.nsIn K mainGlobals "written_rows" = some (some (.ref f22))) (l22 : K.lookup f22 = some ⟨oc22, od22, .func (PySem.W.fnOf "written_rows" "written_rows" (defArgs s_written_rows) (defBody s_written_rows) (defScope s_written_rows) .none kV22 dc22 pm22 an22 cd22 ct22), sl22⟩) (c22 : PySem.W.codeIn K cd22 "written_rows" = true) (k22 : PySem.W.keepIn K (.ref f22) = true)
    {f23 : Addr} {oc23 kV23 dc23 pm23 cd23 ct23 : Value} {od23 an23 : Option Addr} {sl23 : Array (Option Value)} (a23 : PySem.W.nsIn K mainGlobals "count_written" = some (some (.ref f23))) (l23 : K.lookup f23 = some ⟨oc23, od23, .func (PySem.W.fnOf "count_written" "count_written" (defArgs s_count_written) (defBody s_count_written) (defScope s_count_written) .none kV23 dc23 pm23 an23 cd23 ct23), sl23⟩) (c23 : PySem.W.codeIn K cd23 "count_written" = true) (k23 : PySem.W.keepIn K (.ref f23) = true)
    {f24 : Addr} {oc24 kV24 dc24 pm24 cd24 ct24 : Value} {od24 an24 : Option Addr} {sl24 : Array (Option Value)} (a24 : PySem.W.nsIn K mainGlobals "has" = some (some (.ref f24))) (l24 : K.lookup f24 = some ⟨oc24, od24, .func (PySem.W.fnOf "has" "has" (defArgs s_has) (defBody s_has) (defScope s_has) .none kV24 dc24 pm24 an24 cd24 ct24), sl24⟩) (c24 : PySem.W.codeIn K cd24 "has" = true) (k24 : PySem.W.keepIn K (.ref f24) = true)
    {f25 : Addr} {oc25 kV25 dc25 pm25 cd25 ct25 : Value} {od25 an25 : Option Addr} {sl25 : Array (Option Value)} (a25 : PySem.W.nsIn K mainGlobals "is_written" = some (some (.ref f25))) (l25 : K.lookup f25 = some ⟨oc25, od25, .func (PySem.W.fnOf "is_written" "is_written" (defArgs s_is_written) (defBody s_is_written) (defScope s_is_written) .none kV25 dc25 pm25 an25 cd25 ct25), sl25⟩) (c25 : PySem.W.codeIn K cd25 "is_written" = true) (k25 : PySem.W.keepIn K (.ref f25) = true)
    {f26 : Addr} {oc26 kV26 dc26 pm26 cd26 ct26 : Value} {od26 an26 : Option Addr} {sl26 : Array (Option Value)} (a26 : PySem.W.nsIn K mainGlobals "rows_below" = some (some (.ref f26))) (l26 : K.lookup f26 = some ⟨oc26, od26, .func (PySem.W.fnOf "rows_below" "rows_below" (defArgs s_rows_below) (defBody s_rows_below) (defScope s_rows_below) .none kV26 dc26 pm26 an26 cd26 ct26), sl26⟩) (c26 : PySem.W.codeIn K cd26 "rows_below" = true) (k26 : PySem.W.keepIn K (.ref f26) = true)
    {f27 : Addr} {oc27 kV27 dc27 pm27 cd27 ct27 : Value} {od27 an27 : Option Addr} {sl27 : Array (Option Value)} (a27 : PySem.W.nsIn K mainGlobals "nth_written" = some (some (.ref f27))) (l27 : K.lookup f27 = some ⟨oc27, od27, .func (PySem.W.fnOf "nth_written" "nth_written" (defArgs s_nth_written) (defBody s_nth_written) (defScope s_nth_written) .none kV27 dc27 pm27 an27 cd27 ct27), sl27⟩) (c27 : PySem.W.codeIn K cd27 "nth_written" = true) (k27 : PySem.W.keepIn K (.ref f27) = true)
    {f28 : Addr} {oc28 kV28 dc28 pm28 cd28 ct28 : Value} {od28 an28 : Option Addr} {sl28 : Array (Option Value)} (a28 : PySem.W.nsIn K mainGlobals "written_below" = some (some (.ref f28))) (l28 : K.lookup f28 = some ⟨oc28, od28, .func (PySem.W.fnOf "written_below" "written_below" (defArgs s_written_below) (defBody s_written_below) (defScope s_written_below) .none kV28 dc28 pm28 an28 cd28 ct28), sl28⟩) (c28 : PySem.W.codeIn K cd28 "written_below" = true) (k28 : PySem.W.keepIn K (.ref f28) = true)
    {f29 : Addr} {oc29 kV29 dc29 pm29 cd29 ct29 : Value} {od29 an29 : Option Addr} {sl29 : Array (Option Value)} (a29 : PySem.W.nsIn K mainGlobals "_law_told" = some (some (.ref f29))) (l29 : K.lookup f29 = some ⟨oc29, od29, .func (PySem.W.fnOf "_law_told" "_law_told" (defArgs s__law_told) (defBody s__law_told) (defScope s__law_told) .none kV29 dc29 pm29 an29 cd29 ct29), sl29⟩) (c29 : PySem.W.codeIn K cd29 "_law_told" = true) (k29 : PySem.W.keepIn K (.ref f29) = true)
    {f30 : Addr} {oc30 kV30 dc30 pm30 cd30 ct30 : Value} {od30 an30 : Option Addr} {sl30 : Array (Option Value)} (a30 : PySem.W.nsIn K mainGlobals "law" = some (some (.ref f30))) (l30 : K.lookup f30 = some ⟨oc30, od30, .func (PySem.W.fnOf "law" "law" (defArgs s_law) (defBody s_law) (defScope s_law) .none kV30 dc30 pm30 an30 cd30 ct30), sl30⟩) (c30 : PySem.W.codeIn K cd30 "law" = true) (k30 : PySem.W.keepIn K (.ref f30) = true)
    (z_ValueError : PySem.W.nsIn K mainGlobals "ValueError" = some none)
    (z_abs : PySem.W.nsIn K mainGlobals "abs" = some none)
    (z_all : PySem.W.nsIn K mainGlobals "all" = some none)
    (z_any : PySem.W.nsIn K mainGlobals "any" = some none)
    (z_enumerate : PySem.W.nsIn K mainGlobals "enumerate" = some none)
    (z_isinstance : PySem.W.nsIn K mainGlobals "isinstance" = some none)
    (z_len : PySem.W.nsIn K mainGlobals "len" = some none)
    (z_max : PySem.W.nsIn K mainGlobals "max" = some none)
    (z_min : PySem.W.nsIn K mainGlobals "min" = some none)
    (z_range : PySem.W.nsIn K mainGlobals "range" = some none)
    (z_tuple : PySem.W.nsIn K mainGlobals "tuple" = some none)
    {tk_MOST_LETTERS : Tok} (n_MOST_LETTERS : PySem.W.nsIn K mainGlobals "MOST_LETTERS" = some (some (.int 8 tk_MOST_LETTERS)))
    {tk_LETTERS : Tok} (n_LETTERS : PySem.W.nsIn K mainGlobals "LETTERS" = some (some (.str "abcdefghijklmnopqrstuvwxyz" tk_LETTERS)))
    {tk_READ : Tok} (n_READ : PySem.W.nsIn K mainGlobals "READ" = some (some (.str "read" tk_READ)))
    {tk_WRITE : Tok} (n_WRITE : PySem.W.nsIn K mainGlobals "WRITE" = some (some (.str "write" tk_WRITE)))
    (pg_Kernel : PySem.W.plainGet K C_Kernel Str.empty = true)
    (hd_Kernel : PySem.W.hasDictIn K C_Kernel = true)
    (po_Kernel : PySem.W.plainOver K C_Kernel = true)
    (sa_Kernel : PySem.W.findIn K (.ref C_Kernel) "__setattr__" = some (some (.builtin "object.__setattr__")))
    (mi_Kernel : PySem.W.makesIn K C_Kernel = true)
    (kc_Kernel : PySem.W.keepIn K (.ref C_Kernel) = true)
    (fi_Kernel : PySem.W.isFn K (.ref f4) = true)
    (na_Kernel_lane_count : PySem.W.findIn K (.ref C_Kernel) "lane_count" = some none)
    (na_Kernel_kept_statements : PySem.W.findIn K (.ref C_Kernel) "kept_statements" = some none)
    (na_Kernel_kept_barriers : PySem.W.findIn K (.ref C_Kernel) "kept_barriers" = some none)
    {p_ITEMS : Addr} {es_ITEMS : Array DictEntry} {n_ITEMS : Nat} (aD_ITEMS : PySem.W.nsIn K mainGlobals "ITEMS" = some (some (.ref p_ITEMS))) (lD_ITEMS : K.lookup p_ITEMS = some ⟨.type "dict", none, .dict es_ITEMS n_ITEMS, #[]⟩) (tD_ITEMS : es_ITEMS.toList.map He.keyOf = He.keysIn w.params ["put", "move", "sum"]) (wD_ITEMS : (p_ITEMS == sysModules) = false)
    {tk_ITEMS_0 : Tok} (kD_ITEMS_0 : PySem.W.nsIn K p_ITEMS "put" = some (some (.int 7 tk_ITEMS_0)))
    {tk_ITEMS_1 : Tok} (kD_ITEMS_1 : PySem.W.nsIn K p_ITEMS "move" = some (some (.int 9 tk_ITEMS_1)))
    {tk_ITEMS_2 : Tok} (kD_ITEMS_2 : PySem.W.nsIn K p_ITEMS "sum" = some (some (.int 11 tk_ITEMS_2)))
    {p_PLACES : Addr} {es_PLACES : Array DictEntry} {n_PLACES : Nat} (aD_PLACES : PySem.W.nsIn K mainGlobals "PLACES" = some (some (.ref p_PLACES))) (lD_PLACES : K.lookup p_PLACES = some ⟨.type "dict", none, .dict es_PLACES n_PLACES, #[]⟩) (tD_PLACES : es_PLACES.toList.map He.keyOf = He.keysIn w.params ["put", "move", "sum"]) (wD_PLACES : (p_PLACES == sysModules) = false)
    {r_PLACES_0 : Addr} {od_PLACES_0 : Option Addr} {it_PLACES_0 : Array Value} {nn_PLACES_0 : Nat} {sl_PLACES_0 : Array (Option Value)} (kD_PLACES_0 : PySem.W.nsIn K p_PLACES "put" = some (some (.ref r_PLACES_0))) (uD_PLACES_0 : K.lookup r_PLACES_0 = some ⟨.type "tuple", od_PLACES_0, .seq it_PLACES_0 nn_PLACES_0, sl_PLACES_0⟩) (sD_PLACES_0 : it_PLACES_0.size ≤ sizeLine) (vD_PLACES_0 : Vals (([2] : List Int).map V.int) it_PLACES_0.toList)
    {r_PLACES_1 : Addr} {od_PLACES_1 : Option Addr} {it_PLACES_1 : Array Value} {nn_PLACES_1 : Nat} {sl_PLACES_1 : Array (Option Value)} (kD_PLACES_1 : PySem.W.nsIn K p_PLACES "move" = some (some (.ref r_PLACES_1))) (uD_PLACES_1 : K.lookup r_PLACES_1 = some ⟨.type "tuple", od_PLACES_1, .seq it_PLACES_1 nn_PLACES_1, sl_PLACES_1⟩) (sD_PLACES_1 : it_PLACES_1.size ≤ sizeLine) (vD_PLACES_1 : Vals (([2, 5] : List Int).map V.int) it_PLACES_1.toList)
    {r_PLACES_2 : Addr} {od_PLACES_2 : Option Addr} {it_PLACES_2 : Array Value} {nn_PLACES_2 : Nat} {sl_PLACES_2 : Array (Option Value)} (kD_PLACES_2 : PySem.W.nsIn K p_PLACES "sum" = some (some (.ref r_PLACES_2))) (uD_PLACES_2 : K.lookup r_PLACES_2 = some ⟨.type "tuple", od_PLACES_2, .seq it_PLACES_2 nn_PLACES_2, sl_PLACES_2⟩) (sD_PLACES_2 : it_PLACES_2.size ≤ sizeLine) (vD_PLACES_2 : Vals (([2, 5, 8] : List Int).map V.int) it_PLACES_2.toList)
    {C_InvalidBarrier D_InvalidBarrier fI_InvalidBarrier cda_InvalidBarrier cc_InvalidBarrier N_InvalidBarrier : Addr} {n_InvalidBarrier q_InvalidBarrier file_InvalidBarrier : Str} {bs_InvalidBarrier : List Value} {sn_InvalidBarrier : List Str} {sub_InvalidBarrier : List Value} {ab_InvalidBarrier : Bool} {col_InvalidBarrier : Option Bool} {dd_InvalidBarrier od_InvalidBarrier an_InvalidBarrier cdd_InvalidBarrier cld_InvalidBarrier : Option Addr} {k0_InvalidBarrier k1_InvalidBarrier k2_InvalidBarrier k3_InvalidBarrier k5_InvalidBarrier : Option Value} {oc_InvalidBarrier doc_InvalidBarrier pm_InvalidBarrier ct_InvalidBarrier ccl_InvalidBarrier cl_InvalidBarrier : Value} {osl_InvalidBarrier ccs_InvalidBarrier csl_InvalidBarrier : Array (Option Value)} {ln_InvalidBarrier : Nat} {p1_InvalidBarrier p2_InvalidBarrier q1_InvalidBarrier q2_InvalidBarrier q3_InvalidBarrier q4_InvalidBarrier : Pos} {vs_InvalidBarrier : Array Value} {tf_InvalidBarrier : Tok}
    (aC_InvalidBarrier : PySem.W.nsIn K mainGlobals "InvalidBarrier" = some (some (.ref C_InvalidBarrier)))
    (xC_InvalidBarrier : K.lookup C_InvalidBarrier = some (excClassObj n_InvalidBarrier q_InvalidBarrier C_InvalidBarrier N_InvalidBarrier bs_InvalidBarrier (.ref D_InvalidBarrier :: PXE.veBm) true sn_InvalidBarrier sub_InvalidBarrier ab_InvalidBarrier col_InvalidBarrier dd_InvalidBarrier k0_InvalidBarrier k1_InvalidBarrier k2_InvalidBarrier k3_InvalidBarrier k5_InvalidBarrier "ValueError.__new__")) (ne_InvalidBarrier : (Value.ref C_InvalidBarrier != Value.ref D_InvalidBarrier) = true)
    (sa_InvalidBarrier : PySem.W.findIn K (.ref C_InvalidBarrier) "__setattr__" = some (some (.builtin "object.__setattr__"))) (ga_InvalidBarrier : PySem.W.findIn K (.ref C_InvalidBarrier) "__getattribute__" = some (some (.builtin "BaseException.__getattribute__"))) (gg_InvalidBarrier : PySem.W.findIn K (.ref C_InvalidBarrier) "__getattr__" = some none) (nv_InvalidBarrier : PySem.W.findIn K (.ref C_InvalidBarrier) "value" = some none)
    (iC_InvalidBarrier : PySem.W.findIn K (.ref C_InvalidBarrier) "__init__" = some (some (.ref fI_InvalidBarrier))) (tC_InvalidBarrier : PySem.W.typeIn K (.ref fI_InvalidBarrier) = some (.type "function"))
    (l1_InvalidBarrier : K.lookup fI_InvalidBarrier = some ⟨oc_InvalidBarrier, od_InvalidBarrier, .func (PySem.W.ksFn "__init__" "StrideError.__init__" (PXE.xA p1_InvalidBarrier p2_InvalidBarrier) (PXE.xB ln_InvalidBarrier q1_InvalidBarrier q2_InvalidBarrier q3_InvalidBarrier q4_InvalidBarrier) PXE.xS .none .none doc_InvalidBarrier pm_InvalidBarrier an_InvalidBarrier (.ref cda_InvalidBarrier) ct_InvalidBarrier cc_InvalidBarrier), osl_InvalidBarrier⟩) (c1_InvalidBarrier : PySem.W.codeIn K (.ref cda_InvalidBarrier) "StrideError.__init__" = true)
    (lc_InvalidBarrier : K.lookup cda_InvalidBarrier = some ⟨ccl_InvalidBarrier, cdd_InvalidBarrier, .fields vs_InvalidBarrier, ccs_InvalidBarrier⟩) (hv_InvalidBarrier : vs_InvalidBarrier[2]? = some (.str file_InvalidBarrier tf_InvalidBarrier)) (hf_InvalidBarrier : ((prog.main.file : Str) == file_InvalidBarrier) = true) (lcc_InvalidBarrier : K.lookup cc_InvalidBarrier = some ⟨cl_InvalidBarrier, cld_InvalidBarrier, .cell (some (.ref D_InvalidBarrier)), csl_InvalidBarrier⟩) (hln_InvalidBarrier : ln_InvalidBarrier = 5 ∨ ln_InvalidBarrier = 8)
    (kC_InvalidBarrier : PySem.W.keepIn K (.ref C_InvalidBarrier) = true) (eC_InvalidBarrier : PySem.W.subIn K (.ref C_InvalidBarrier) (.type "BaseException") = some true) (vC_InvalidBarrier : PySem.W.subIn K (.ref C_InvalidBarrier) (.type "ValueError") = some true) (yC_InvalidBarrier : PySem.W.typeIn K (.ref C_InvalidBarrier) = some (.type "type")) (hC_InvalidBarrier : PySem.W.hasDictIn K C_InvalidBarrier = true) (isC_InvalidBarrier : PySem.W.isClsIn K C_InvalidBarrier = true) (sC_InvalidBarrier : PySem.W.subIn K (.ref C_InvalidBarrier) (.ref C_InvalidBarrier) = some true)
    (ny_InvalidBarrier : PySem.W.nsIn K cStatics "thirdparty.any" = some none) (mD_InvalidBarrier : PySem.W.mroIn K C_InvalidBarrier (.ref D_InvalidBarrier) = some true) (isD_InvalidBarrier : PySem.W.isClsIn K D_InvalidBarrier = true) (zs_InvalidBarrier : PySem.W.nsIn K mainGlobals "super" = some none) (tp_InvalidBarrier : (prog.main.scope.names.lookup ("super" : Str)).isSome = false)
    {C_InvalidLanes D_InvalidLanes fI_InvalidLanes cda_InvalidLanes cc_InvalidLanes N_InvalidLanes : Addr} {n_InvalidLanes q_InvalidLanes file_InvalidLanes : Str} {bs_InvalidLanes : List Value} {sn_InvalidLanes : List Str} {sub_InvalidLanes : List Value} {ab_InvalidLanes : Bool} {col_InvalidLanes : Option Bool} {dd_InvalidLanes od_InvalidLanes an_InvalidLanes cdd_InvalidLanes cld_InvalidLanes : Option Addr} {k0_InvalidLanes k1_InvalidLanes k2_InvalidLanes k3_InvalidLanes k5_InvalidLanes : Option Value} {oc_InvalidLanes doc_InvalidLanes pm_InvalidLanes ct_InvalidLanes ccl_InvalidLanes cl_InvalidLanes : Value} {osl_InvalidLanes ccs_InvalidLanes csl_InvalidLanes : Array (Option Value)} {ln_InvalidLanes : Nat} {p1_InvalidLanes p2_InvalidLanes q1_InvalidLanes q2_InvalidLanes q3_InvalidLanes q4_InvalidLanes : Pos} {vs_InvalidLanes : Array Value} {tf_InvalidLanes : Tok}
    (aC_InvalidLanes : PySem.W.nsIn K mainGlobals "InvalidLanes" = some (some (.ref C_InvalidLanes)))
    (xC_InvalidLanes : K.lookup C_InvalidLanes = some (excClassObj n_InvalidLanes q_InvalidLanes C_InvalidLanes N_InvalidLanes bs_InvalidLanes (.ref D_InvalidLanes :: PXE.veBm) true sn_InvalidLanes sub_InvalidLanes ab_InvalidLanes col_InvalidLanes dd_InvalidLanes k0_InvalidLanes k1_InvalidLanes k2_InvalidLanes k3_InvalidLanes k5_InvalidLanes "ValueError.__new__")) (ne_InvalidLanes : (Value.ref C_InvalidLanes != Value.ref D_InvalidLanes) = true)
    (sa_InvalidLanes : PySem.W.findIn K (.ref C_InvalidLanes) "__setattr__" = some (some (.builtin "object.__setattr__"))) (ga_InvalidLanes : PySem.W.findIn K (.ref C_InvalidLanes) "__getattribute__" = some (some (.builtin "BaseException.__getattribute__"))) (gg_InvalidLanes : PySem.W.findIn K (.ref C_InvalidLanes) "__getattr__" = some none) (nv_InvalidLanes : PySem.W.findIn K (.ref C_InvalidLanes) "value" = some none)
    (iC_InvalidLanes : PySem.W.findIn K (.ref C_InvalidLanes) "__init__" = some (some (.ref fI_InvalidLanes))) (tC_InvalidLanes : PySem.W.typeIn K (.ref fI_InvalidLanes) = some (.type "function"))
    (l1_InvalidLanes : K.lookup fI_InvalidLanes = some ⟨oc_InvalidLanes, od_InvalidLanes, .func (PySem.W.ksFn "__init__" "StrideError.__init__" (PXE.xA p1_InvalidLanes p2_InvalidLanes) (PXE.xB ln_InvalidLanes q1_InvalidLanes q2_InvalidLanes q3_InvalidLanes q4_InvalidLanes) PXE.xS .none .none doc_InvalidLanes pm_InvalidLanes an_InvalidLanes (.ref cda_InvalidLanes) ct_InvalidLanes cc_InvalidLanes), osl_InvalidLanes⟩) (c1_InvalidLanes : PySem.W.codeIn K (.ref cda_InvalidLanes) "StrideError.__init__" = true)
    (lc_InvalidLanes : K.lookup cda_InvalidLanes = some ⟨ccl_InvalidLanes, cdd_InvalidLanes, .fields vs_InvalidLanes, ccs_InvalidLanes⟩) (hv_InvalidLanes : vs_InvalidLanes[2]? = some (.str file_InvalidLanes tf_InvalidLanes)) (hf_InvalidLanes : ((prog.main.file : Str) == file_InvalidLanes) = true) (lcc_InvalidLanes : K.lookup cc_InvalidLanes = some ⟨cl_InvalidLanes, cld_InvalidLanes, .cell (some (.ref D_InvalidLanes)), csl_InvalidLanes⟩) (hln_InvalidLanes : ln_InvalidLanes = 5 ∨ ln_InvalidLanes = 8)
    (kC_InvalidLanes : PySem.W.keepIn K (.ref C_InvalidLanes) = true) (eC_InvalidLanes : PySem.W.subIn K (.ref C_InvalidLanes) (.type "BaseException") = some true) (vC_InvalidLanes : PySem.W.subIn K (.ref C_InvalidLanes) (.type "ValueError") = some true) (yC_InvalidLanes : PySem.W.typeIn K (.ref C_InvalidLanes) = some (.type "type")) (hC_InvalidLanes : PySem.W.hasDictIn K C_InvalidLanes = true) (isC_InvalidLanes : PySem.W.isClsIn K C_InvalidLanes = true) (sC_InvalidLanes : PySem.W.subIn K (.ref C_InvalidLanes) (.ref C_InvalidLanes) = some true)
    (ny_InvalidLanes : PySem.W.nsIn K cStatics "thirdparty.any" = some none) (mD_InvalidLanes : PySem.W.mroIn K C_InvalidLanes (.ref D_InvalidLanes) = some true) (isD_InvalidLanes : PySem.W.isClsIn K D_InvalidLanes = true) (zs_InvalidLanes : PySem.W.nsIn K mainGlobals "super" = some none) (tp_InvalidLanes : (prog.main.scope.names.lookup ("super" : Str)).isSome = false)
    {C_InvalidStatement D_InvalidStatement fI_InvalidStatement cda_InvalidStatement cc_InvalidStatement N_InvalidStatement : Addr} {n_InvalidStatement q_InvalidStatement file_InvalidStatement : Str} {bs_InvalidStatement : List Value} {sn_InvalidStatement : List Str} {sub_InvalidStatement : List Value} {ab_InvalidStatement : Bool} {col_InvalidStatement : Option Bool} {dd_InvalidStatement od_InvalidStatement an_InvalidStatement cdd_InvalidStatement cld_InvalidStatement : Option Addr} {k0_InvalidStatement k1_InvalidStatement k2_InvalidStatement k3_InvalidStatement k5_InvalidStatement : Option Value} {oc_InvalidStatement doc_InvalidStatement pm_InvalidStatement ct_InvalidStatement ccl_InvalidStatement cl_InvalidStatement : Value} {osl_InvalidStatement ccs_InvalidStatement csl_InvalidStatement : Array (Option Value)} {ln_InvalidStatement : Nat} {p1_InvalidStatement p2_InvalidStatement q1_InvalidStatement q2_InvalidStatement q3_InvalidStatement q4_InvalidStatement : Pos} {vs_InvalidStatement : Array Value} {tf_InvalidStatement : Tok}
    (aC_InvalidStatement : PySem.W.nsIn K mainGlobals "InvalidStatement" = some (some (.ref C_InvalidStatement)))
    (xC_InvalidStatement : K.lookup C_InvalidStatement = some (excClassObj n_InvalidStatement q_InvalidStatement C_InvalidStatement N_InvalidStatement bs_InvalidStatement (.ref D_InvalidStatement :: PXE.veBm) true sn_InvalidStatement sub_InvalidStatement ab_InvalidStatement col_InvalidStatement dd_InvalidStatement k0_InvalidStatement k1_InvalidStatement k2_InvalidStatement k3_InvalidStatement k5_InvalidStatement "ValueError.__new__")) (ne_InvalidStatement : (Value.ref C_InvalidStatement != Value.ref D_InvalidStatement) = true)
    (sa_InvalidStatement : PySem.W.findIn K (.ref C_InvalidStatement) "__setattr__" = some (some (.builtin "object.__setattr__"))) (ga_InvalidStatement : PySem.W.findIn K (.ref C_InvalidStatement) "__getattribute__" = some (some (.builtin "BaseException.__getattribute__"))) (gg_InvalidStatement : PySem.W.findIn K (.ref C_InvalidStatement) "__getattr__" = some none) (nv_InvalidStatement : PySem.W.findIn K (.ref C_InvalidStatement) "value" = some none)
    (iC_InvalidStatement : PySem.W.findIn K (.ref C_InvalidStatement) "__init__" = some (some (.ref fI_InvalidStatement))) (tC_InvalidStatement : PySem.W.typeIn K (.ref fI_InvalidStatement) = some (.type "function"))
    (l1_InvalidStatement : K.lookup fI_InvalidStatement = some ⟨oc_InvalidStatement, od_InvalidStatement, .func (PySem.W.ksFn "__init__" "StrideError.__init__" (PXE.xA p1_InvalidStatement p2_InvalidStatement) (PXE.xB ln_InvalidStatement q1_InvalidStatement q2_InvalidStatement q3_InvalidStatement q4_InvalidStatement) PXE.xS .none .none doc_InvalidStatement pm_InvalidStatement an_InvalidStatement (.ref cda_InvalidStatement) ct_InvalidStatement cc_InvalidStatement), osl_InvalidStatement⟩) (c1_InvalidStatement : PySem.W.codeIn K (.ref cda_InvalidStatement) "StrideError.__init__" = true)
    (lc_InvalidStatement : K.lookup cda_InvalidStatement = some ⟨ccl_InvalidStatement, cdd_InvalidStatement, .fields vs_InvalidStatement, ccs_InvalidStatement⟩) (hv_InvalidStatement : vs_InvalidStatement[2]? = some (.str file_InvalidStatement tf_InvalidStatement)) (hf_InvalidStatement : ((prog.main.file : Str) == file_InvalidStatement) = true) (lcc_InvalidStatement : K.lookup cc_InvalidStatement = some ⟨cl_InvalidStatement, cld_InvalidStatement, .cell (some (.ref D_InvalidStatement)), csl_InvalidStatement⟩) (hln_InvalidStatement : ln_InvalidStatement = 5 ∨ ln_InvalidStatement = 8)
    (kC_InvalidStatement : PySem.W.keepIn K (.ref C_InvalidStatement) = true) (eC_InvalidStatement : PySem.W.subIn K (.ref C_InvalidStatement) (.type "BaseException") = some true) (vC_InvalidStatement : PySem.W.subIn K (.ref C_InvalidStatement) (.type "ValueError") = some true) (yC_InvalidStatement : PySem.W.typeIn K (.ref C_InvalidStatement) = some (.type "type")) (hC_InvalidStatement : PySem.W.hasDictIn K C_InvalidStatement = true) (isC_InvalidStatement : PySem.W.isClsIn K C_InvalidStatement = true) (sC_InvalidStatement : PySem.W.subIn K (.ref C_InvalidStatement) (.ref C_InvalidStatement) = some true)
    (ny_InvalidStatement : PySem.W.nsIn K cStatics "thirdparty.any" = some none) (mD_InvalidStatement : PySem.W.mroIn K C_InvalidStatement (.ref D_InvalidStatement) = some true) (isD_InvalidStatement : PySem.W.isClsIn K D_InvalidStatement = true) (zs_InvalidStatement : PySem.W.nsIn K mainGlobals "super" = some none) (tp_InvalidStatement : (prog.main.scope.names.lookup ("super" : Str)).isSome = false)
    {C_InvalidArray D_InvalidArray fI_InvalidArray cda_InvalidArray cc_InvalidArray N_InvalidArray : Addr} {n_InvalidArray q_InvalidArray file_InvalidArray : Str} {bs_InvalidArray : List Value} {sn_InvalidArray : List Str} {sub_InvalidArray : List Value} {ab_InvalidArray : Bool} {col_InvalidArray : Option Bool} {dd_InvalidArray od_InvalidArray an_InvalidArray cdd_InvalidArray cld_InvalidArray : Option Addr} {k0_InvalidArray k1_InvalidArray k2_InvalidArray k3_InvalidArray k5_InvalidArray : Option Value} {oc_InvalidArray doc_InvalidArray pm_InvalidArray ct_InvalidArray ccl_InvalidArray cl_InvalidArray : Value} {osl_InvalidArray ccs_InvalidArray csl_InvalidArray : Array (Option Value)} {ln_InvalidArray : Nat} {p1_InvalidArray p2_InvalidArray q1_InvalidArray q2_InvalidArray q3_InvalidArray q4_InvalidArray : Pos} {vs_InvalidArray : Array Value} {tf_InvalidArray : Tok}
    (aC_InvalidArray : PySem.W.nsIn K mainGlobals "InvalidArray" = some (some (.ref C_InvalidArray)))
    (xC_InvalidArray : K.lookup C_InvalidArray = some (excClassObj n_InvalidArray q_InvalidArray C_InvalidArray N_InvalidArray bs_InvalidArray (.ref D_InvalidArray :: PXE.veBm) true sn_InvalidArray sub_InvalidArray ab_InvalidArray col_InvalidArray dd_InvalidArray k0_InvalidArray k1_InvalidArray k2_InvalidArray k3_InvalidArray k5_InvalidArray "ValueError.__new__")) (ne_InvalidArray : (Value.ref C_InvalidArray != Value.ref D_InvalidArray) = true)
    (sa_InvalidArray : PySem.W.findIn K (.ref C_InvalidArray) "__setattr__" = some (some (.builtin "object.__setattr__"))) (ga_InvalidArray : PySem.W.findIn K (.ref C_InvalidArray) "__getattribute__" = some (some (.builtin "BaseException.__getattribute__"))) (gg_InvalidArray : PySem.W.findIn K (.ref C_InvalidArray) "__getattr__" = some none) (nv_InvalidArray : PySem.W.findIn K (.ref C_InvalidArray) "value" = some none)
    (iC_InvalidArray : PySem.W.findIn K (.ref C_InvalidArray) "__init__" = some (some (.ref fI_InvalidArray))) (tC_InvalidArray : PySem.W.typeIn K (.ref fI_InvalidArray) = some (.type "function"))
    (l1_InvalidArray : K.lookup fI_InvalidArray = some ⟨oc_InvalidArray, od_InvalidArray, .func (PySem.W.ksFn "__init__" "StrideError.__init__" (PXE.xA p1_InvalidArray p2_InvalidArray) (PXE.xB ln_InvalidArray q1_InvalidArray q2_InvalidArray q3_InvalidArray q4_InvalidArray) PXE.xS .none .none doc_InvalidArray pm_InvalidArray an_InvalidArray (.ref cda_InvalidArray) ct_InvalidArray cc_InvalidArray), osl_InvalidArray⟩) (c1_InvalidArray : PySem.W.codeIn K (.ref cda_InvalidArray) "StrideError.__init__" = true)
    (lc_InvalidArray : K.lookup cda_InvalidArray = some ⟨ccl_InvalidArray, cdd_InvalidArray, .fields vs_InvalidArray, ccs_InvalidArray⟩) (hv_InvalidArray : vs_InvalidArray[2]? = some (.str file_InvalidArray tf_InvalidArray)) (hf_InvalidArray : ((prog.main.file : Str) == file_InvalidArray) = true) (lcc_InvalidArray : K.lookup cc_InvalidArray = some ⟨cl_InvalidArray, cld_InvalidArray, .cell (some (.ref D_InvalidArray)), csl_InvalidArray⟩) (hln_InvalidArray : ln_InvalidArray = 5 ∨ ln_InvalidArray = 8)
    (kC_InvalidArray : PySem.W.keepIn K (.ref C_InvalidArray) = true) (eC_InvalidArray : PySem.W.subIn K (.ref C_InvalidArray) (.type "BaseException") = some true) (vC_InvalidArray : PySem.W.subIn K (.ref C_InvalidArray) (.type "ValueError") = some true) (yC_InvalidArray : PySem.W.typeIn K (.ref C_InvalidArray) = some (.type "type")) (hC_InvalidArray : PySem.W.hasDictIn K C_InvalidArray = true) (isC_InvalidArray : PySem.W.isClsIn K C_InvalidArray = true) (sC_InvalidArray : PySem.W.subIn K (.ref C_InvalidArray) (.ref C_InvalidArray) = some true)
    (ny_InvalidArray : PySem.W.nsIn K cStatics "thirdparty.any" = some none) (mD_InvalidArray : PySem.W.mroIn K C_InvalidArray (.ref D_InvalidArray) = some true) (isD_InvalidArray : PySem.W.isClsIn K D_InvalidArray = true) (zs_InvalidArray : PySem.W.nsIn K mainGlobals "super" = some none) (tp_InvalidArray : (prog.main.scope.names.lookup ("super" : Str)).isSome = false)
    {C_InvalidNumber D_InvalidNumber fI_InvalidNumber cda_InvalidNumber cc_InvalidNumber N_InvalidNumber : Addr} {n_InvalidNumber q_InvalidNumber file_InvalidNumber : Str} {bs_InvalidNumber : List Value} {sn_InvalidNumber : List Str} {sub_InvalidNumber : List Value} {ab_InvalidNumber : Bool} {col_InvalidNumber : Option Bool} {dd_InvalidNumber od_InvalidNumber an_InvalidNumber cdd_InvalidNumber cld_InvalidNumber : Option Addr} {k0_InvalidNumber k1_InvalidNumber k2_InvalidNumber k3_InvalidNumber k5_InvalidNumber : Option Value} {oc_InvalidNumber doc_InvalidNumber pm_InvalidNumber ct_InvalidNumber ccl_InvalidNumber cl_InvalidNumber : Value} {osl_InvalidNumber ccs_InvalidNumber csl_InvalidNumber : Array (Option Value)} {ln_InvalidNumber : Nat} {p1_InvalidNumber p2_InvalidNumber q1_InvalidNumber q2_InvalidNumber q3_InvalidNumber q4_InvalidNumber : Pos} {vs_InvalidNumber : Array Value} {tf_InvalidNumber : Tok}
    (aC_InvalidNumber : PySem.W.nsIn K mainGlobals "InvalidNumber" = some (some (.ref C_InvalidNumber)))
    (xC_InvalidNumber : K.lookup C_InvalidNumber = some (excClassObj n_InvalidNumber q_InvalidNumber C_InvalidNumber N_InvalidNumber bs_InvalidNumber (.ref D_InvalidNumber :: PXE.veBm) true sn_InvalidNumber sub_InvalidNumber ab_InvalidNumber col_InvalidNumber dd_InvalidNumber k0_InvalidNumber k1_InvalidNumber k2_InvalidNumber k3_InvalidNumber k5_InvalidNumber "ValueError.__new__")) (ne_InvalidNumber : (Value.ref C_InvalidNumber != Value.ref D_InvalidNumber) = true)
    (sa_InvalidNumber : PySem.W.findIn K (.ref C_InvalidNumber) "__setattr__" = some (some (.builtin "object.__setattr__"))) (ga_InvalidNumber : PySem.W.findIn K (.ref C_InvalidNumber) "__getattribute__" = some (some (.builtin "BaseException.__getattribute__"))) (gg_InvalidNumber : PySem.W.findIn K (.ref C_InvalidNumber) "__getattr__" = some none) (nv_InvalidNumber : PySem.W.findIn K (.ref C_InvalidNumber) "value" = some none)
    (iC_InvalidNumber : PySem.W.findIn K (.ref C_InvalidNumber) "__init__" = some (some (.ref fI_InvalidNumber))) (tC_InvalidNumber : PySem.W.typeIn K (.ref fI_InvalidNumber) = some (.type "function"))
    (l1_InvalidNumber : K.lookup fI_InvalidNumber = some ⟨oc_InvalidNumber, od_InvalidNumber, .func (PySem.W.ksFn "__init__" "StrideError.__init__" (PXE.xA p1_InvalidNumber p2_InvalidNumber) (PXE.xB ln_InvalidNumber q1_InvalidNumber q2_InvalidNumber q3_InvalidNumber q4_InvalidNumber) PXE.xS .none .none doc_InvalidNumber pm_InvalidNumber an_InvalidNumber (.ref cda_InvalidNumber) ct_InvalidNumber cc_InvalidNumber), osl_InvalidNumber⟩) (c1_InvalidNumber : PySem.W.codeIn K (.ref cda_InvalidNumber) "StrideError.__init__" = true)
    (lc_InvalidNumber : K.lookup cda_InvalidNumber = some ⟨ccl_InvalidNumber, cdd_InvalidNumber, .fields vs_InvalidNumber, ccs_InvalidNumber⟩) (hv_InvalidNumber : vs_InvalidNumber[2]? = some (.str file_InvalidNumber tf_InvalidNumber)) (hf_InvalidNumber : ((prog.main.file : Str) == file_InvalidNumber) = true) (lcc_InvalidNumber : K.lookup cc_InvalidNumber = some ⟨cl_InvalidNumber, cld_InvalidNumber, .cell (some (.ref D_InvalidNumber)), csl_InvalidNumber⟩) (hln_InvalidNumber : ln_InvalidNumber = 5 ∨ ln_InvalidNumber = 8)
    (kC_InvalidNumber : PySem.W.keepIn K (.ref C_InvalidNumber) = true) (eC_InvalidNumber : PySem.W.subIn K (.ref C_InvalidNumber) (.type "BaseException") = some true) (vC_InvalidNumber : PySem.W.subIn K (.ref C_InvalidNumber) (.type "ValueError") = some true) (yC_InvalidNumber : PySem.W.typeIn K (.ref C_InvalidNumber) = some (.type "type")) (hC_InvalidNumber : PySem.W.hasDictIn K C_InvalidNumber = true) (isC_InvalidNumber : PySem.W.isClsIn K C_InvalidNumber = true) (sC_InvalidNumber : PySem.W.subIn K (.ref C_InvalidNumber) (.ref C_InvalidNumber) = some true)
    (ny_InvalidNumber : PySem.W.nsIn K cStatics "thirdparty.any" = some none) (mD_InvalidNumber : PySem.W.mroIn K C_InvalidNumber (.ref D_InvalidNumber) = some true) (isD_InvalidNumber : PySem.W.isClsIn K D_InvalidNumber = true) (zs_InvalidNumber : PySem.W.nsIn K mainGlobals "super" = some none) (tp_InvalidNumber : (prog.main.scope.names.lookup ("super" : Str)).isSome = false)
    {C_InvalidGuard : Addr} (aC_InvalidGuard : PySem.W.nsIn K mainGlobals "InvalidGuard" = some (some (.ref C_InvalidGuard)))
    {C_InvalidAccess : Addr} (aC_InvalidAccess : PySem.W.nsIn K mainGlobals "InvalidAccess" = some (some (.ref C_InvalidAccess)))
    {C_NotPlain : Addr} (aC_NotPlain : PySem.W.nsIn K mainGlobals "NotPlain" = some (some (.ref C_NotPlain)))
    {C_InvalidSchedule : Addr} (aC_InvalidSchedule : PySem.W.nsIn K mainGlobals "InvalidSchedule" = some (some (.ref C_InvalidSchedule)))
    {C_Racing : Addr} (aC_Racing : PySem.W.nsIn K mainGlobals "Racing" = some (some (.ref C_Racing)))
    {C_UnlikeLanes : Addr} (aC_UnlikeLanes : PySem.W.nsIn K mainGlobals "UnlikeLanes" = some (some (.ref C_UnlikeLanes)))
    {C_Unreadable : Addr} (aC_Unreadable : PySem.W.nsIn K mainGlobals "Unreadable" = some (some (.ref C_Unreadable)))
    {C_NothingToUndo : Addr} (aC_NothingToUndo : PySem.W.nsIn K mainGlobals "NothingToUndo" = some (some (.ref C_NothingToUndo)))
    {C_StrideError : Addr} (aC_StrideError : PySem.W.nsIn K mainGlobals "StrideError" = some (some (.ref C_StrideError)))
    (xkb : PL.errKB K (PXE.clOf K) = true) : Txt prog w K mg (PL.clT [] (PXE.clOf K)) :=
  ⟨f0, _, fun_mk (st := s_check_barriers) l0 c0 k0, (fun_mk (st := s_check_barriers) l0 c0 k0).binds (ps := ["barriers", "size"]) (fun _ _ _ _ _ _ us hl => match us, hl with | [_, _], _ => rfl), PySem.W.mg_of X G a0,
    f1, _, fun_mk (st := s_is_array) l1 c1 k1, (fun_mk (st := s_is_array) l1 c1 k1).binds (ps := ["name"]) (fun _ _ _ _ _ _ us hl => match us, hl with | [_], _ => rfl), PySem.W.mg_of X G a1,
    f2, _, fun_mk (st := s_is_guard) l2 c2 k2, (fun_mk (st := s_is_guard) l2 c2 k2).binds (ps := ["guard"]) (fun _ _ _ _ _ _ us hl => match us, hl with | [_], _ => rfl), PySem.W.mg_of X G a2,
    f3, _, fun_mk (st := s_is_statement) l3 c3 k3, (fun_mk (st := s_is_statement) l3 c3 k3).binds (ps := ["statement", "lanes"]) (fun _ _ _ _ _ _ us hl => match us, hl with | [_, _], _ => rfl), PySem.W.mg_of X G a3,
    f4, _, funX_mk (st := s_Kernel___init__) l4 c4 k4, ⟨_, binds_d1 (f := 0) (oc := .none) (od := none) (osl := #[]) (m := 3) (ps := ["self", "lanes", "statements", "barriers"]) m4 rfl (fun us hl => match us, hl with | [_, _, _], _ => ⟨_, rfl, rfl⟩), KvV.nums (ns := []) o4 rfl rfl (by decide) .nil⟩,
    f5, _, fun_mk (st := s__law_draw) l5 c5 k5, (fun_mk (st := s__law_draw) l5 c5 k5).binds (ps := ["source", "many"]) (fun _ _ _ _ _ _ us hl => match us, hl with | [_, _], _ => rfl), PySem.W.mg_of X G a5,
    f6, _, fun_mk (st := s__law_is_name) l6 c6 k6, (fun_mk (st := s__law_is_name) l6 c6 k6).binds (ps := ["name"]) (fun _ _ _ _ _ _ us hl => match us, hl with | [_], _ => rfl), PySem.W.mg_of X G a6,
    f7, _, fun_mk (st := s__law_name) l7 c7 k7, (fun_mk (st := s__law_name) l7 c7 k7).binds (ps := ["source"]) (fun _ _ _ _ _ _ us hl => match us, hl with | [_], _ => rfl), PySem.W.mg_of X G a7,
    f8, _, fun_mk (st := s__law_source) l8 c8 k8, (fun_mk (st := s__law_source) l8 c8 k8).binds (ps := ["script"]) (fun _ _ _ _ _ _ us hl => match us, hl with | [_], _ => rfl), PySem.W.mg_of X G a8,
    f9, _, fun_mk (st := s__law_cell) l9 c9 k9, (fun_mk (st := s__law_cell) l9 c9 k9).binds (ps := ["source"]) (fun _ _ _ _ _ _ us hl => match us, hl with | [_], _ => rfl), PySem.W.mg_of X G a9,
    f10, _, fun_mk (st := s__law_guard) l10 c10 k10, (fun_mk (st := s__law_guard) l10 c10 k10).binds (ps := ["source", "many"]) (fun _ _ _ _ _ _ us hl => match us, hl with | [_, _], _ => rfl), PySem.W.mg_of X G a10,
    f11, _, fun_mk (st := s__law_statement) l11 c11 k11, (fun_mk (st := s__law_statement) l11 c11 k11).binds (ps := ["source", "many", "names_here"]) (fun _ _ _ _ _ _ us hl => match us, hl with | [_, _, _], _ => rfl), PySem.W.mg_of X G a11,
    f12, _, fun_mk (st := s__law_kind_of) l12 c12 k12, (fun_mk (st := s__law_kind_of) l12 c12 k12).binds (ps := ["problem"]) (fun _ _ _ _ _ _ us hl => match us, hl with | [_], _ => rfl), PySem.W.mg_of X G a12,
    f13, _, fun_mk (st := s_check_array) l13 c13 k13, (fun_mk (st := s_check_array) l13 c13 k13).binds (ps := ["name"]) (fun _ _ _ _ _ _ us hl => match us, hl with | [_], _ => rfl), PySem.W.mg_of X G a13,
    f14, _, fun_mk (st := s_first_of) l14 c14 k14, (fun_mk (st := s_first_of) l14 c14 k14).binds (ps := ["guard"]) (fun _ _ _ _ _ _ us hl => match us, hl with | [_], _ => rfl), PySem.W.mg_of X G a14,
    f15, _, fun_mk (st := s_lanes_of) l15 c15 k15, (fun_mk (st := s_lanes_of) l15 c15 k15).binds (ps := ["guard"]) (fun _ _ _ _ _ _ us hl => match us, hl with | [_], _ => rfl), PySem.W.mg_of X G a15,
    f16, _, fun_mk (st := s_bezout) l16 c16 k16, (fun_mk (st := s_bezout) l16 c16 k16).binds (ps := ["one", "other"]) (fun _ _ _ _ _ _ us hl => match us, hl with | [_, _], _ => rfl), PySem.W.mg_of X G a16,
    f17, _, fun_mk (st := s_meeting) l17 c17 k17, (fun_mk (st := s_meeting) l17 c17 k17).binds (ps := ["guard", "other"]) (fun _ _ _ _ _ _ us hl => match us, hl with | [_, _], _ => rfl), PySem.W.mg_of X G a17,
    f18, _, fun_mk (st := s_count_union) l18 c18 k18, (fun_mk (st := s_count_union) l18 c18 k18).binds (ps := ["rows"]) (fun _ _ _ _ _ _ us hl => match us, hl with | [_], _ => rfl), PySem.W.mg_of X G a18,
    f19, _, fun_mk (st := s_accesses_in) l19 c19 k19, (fun_mk (st := s_accesses_in) l19 c19 k19).binds (ps := ["number", "statement"]) (fun _ _ _ _ _ _ us hl => match us, hl with | [_, _], _ => rfl), PySem.W.mg_of X G a19,
    f20, _, fun_mk (st := s_access_list) l20 c20 k20, (fun_mk (st := s_access_list) l20 c20 k20).binds (ps := ["kernel"]) (fun _ _ _ _ _ _ us hl => match us, hl with | [_], _ => rfl), PySem.W.mg_of X G a20,
    f21, _, fun_mk (st := s_cells_of) l21 c21 k21, (fun_mk (st := s_cells_of) l21 c21 k21).binds (ps := ["guard", "a", "b"]) (fun _ _ _ _ _ _ us hl => match us, hl with | [_, _, _], _ => rfl), PySem.W.mg_of X G a21,
    f22, _, fun_mk (st := s_written_rows) l22 c22 k22, (fun_mk (st := s_written_rows) l22 c22 k22).binds (ps := ["kernel", "array"]) (fun _ _ _ _ _ _ us hl => match us, hl with | [_, _], _ => rfl), PySem.W.mg_of X G a22,
    f23, _, fun_mk (st := s_count_written) l23 c23 k23, (fun_mk (st := s_count_written) l23 c23 k23).binds (ps := ["kernel", "array"]) (fun _ _ _ _ _ _ us hl => match us, hl with | [_, _], _ => rfl), PySem.W.mg_of X G a23,
    f24, _, fun_mk (st := s_has) l24 c24 k24, (fun_mk (st := s_has) l24 c24 k24).binds (ps := ["guard", "lane"]) (fun _ _ _ _ _ _ us hl => match us, hl with | [_, _], _ => rfl), PySem.W.mg_of X G a24,
    f25, _, fun_mk (st := s_is_written) l25 c25 k25, (fun_mk (st := s_is_written) l25 c25 k25).binds (ps := ["kernel", "array", "cell"]) (fun _ _ _ _ _ _ us hl => match us, hl with | [_, _, _], _ => rfl), PySem.W.mg_of X G a25,
    f26, _, fun_mk (st := s_rows_below) l26 c26 k26, (fun_mk (st := s_rows_below) l26 c26 k26).binds (ps := ["rows", "cell"]) (fun _ _ _ _ _ _ us hl => match us, hl with | [_, _], _ => rfl), PySem.W.mg_of X G a26,
    f27, _, fun_mk (st := s_nth_written) l27 c27 k27, (fun_mk (st := s_nth_written) l27 c27 k27).binds (ps := ["kernel", "array", "number"]) (fun _ _ _ _ _ _ us hl => match us, hl with | [_, _, _], _ => rfl), PySem.W.mg_of X G a27,
    f28, _, fun_mk (st := s_written_below) l28 c28 k28, (fun_mk (st := s_written_below) l28 c28 k28).binds (ps := ["kernel", "array", "cell"]) (fun _ _ _ _ _ _ us hl => match us, hl with | [_, _, _], _ => rfl), PySem.W.mg_of X G a28,
    f29, _, fun_mk (st := s__law_told) l29 c29 k29, (fun_mk (st := s__law_told) l29 c29 k29).binds (ps := ["pick", "one", "name", "spot"]) (fun _ _ _ _ _ _ us hl => match us, hl with | [_, _, _, _], _ => rfl), PySem.W.mg_of X G a29,
    f30, _, fun_mk (st := s_law) l30 c30 k30, (fun_mk (st := s_law) l30 c30 k30).binds (ps := ["script"]) (fun _ _ _ _ _ _ us hl => match us, hl with | [_], _ => rfl), PySem.W.mg_of X G a30,
    PySem.W.mg_none_of X G z_ValueError,
    PySem.W.mg_none_of X G z_abs,
    PySem.W.mg_none_of X G z_all,
    PySem.W.mg_none_of X G z_any,
    PySem.W.mg_none_of X G z_enumerate,
    PySem.W.mg_none_of X G z_isinstance,
    PySem.W.mg_none_of X G z_len,
    PySem.W.mg_none_of X G z_max,
    PySem.W.mg_none_of X G z_min,
    PySem.W.mg_none_of X G z_range,
    PySem.W.mg_none_of X G z_tuple,
    ⟨_, PySem.W.mg_of X G n_MOST_LETTERS, ⟨_, rfl⟩⟩,
    ⟨_, PySem.W.mg_of X G n_LETTERS, ⟨_, rfl⟩⟩,
    ⟨_, PySem.W.mg_of X G n_READ, ⟨_, rfl⟩⟩,
    ⟨_, PySem.W.mg_of X G n_WRITE, ⟨_, rfl⟩⟩,
    (by rw [PL.clT_at aC_Kernel]; exact PySem.W.mg_of X G aC_Kernel),
    (by rw [PL.clT_at aC_Kernel]; exact ⟨pg_Kernel, hd_Kernel, po_Kernel, sa_Kernel⟩),
    (by rw [PL.clT_at aC_Kernel]; exact ⟨mi_Kernel, a4, fi_Kernel, kc_Kernel⟩),
    (by rw [PL.clT_at aC_Kernel]; exact na_Kernel_lane_count),
    (by rw [PL.clT_at aC_Kernel]; exact na_Kernel_kept_statements),
    (by rw [PL.clT_at aC_Kernel]; exact na_Kernel_kept_barriers),
    dct_mk (PySem.W.mg_of X G aD_ITEMS) lD_ITEMS tD_ITEMS wD_ITEMS (.cons kD_ITEMS_0 (.int _ _) (.cons kD_ITEMS_1 (.int _ _) (.cons kD_ITEMS_2 (.int _ _) .nil))),
    dct_mk (PySem.W.mg_of X G aD_PLACES) lD_PLACES tD_PLACES wD_PLACES (.cons kD_PLACES_0 (KvV.nums (ns := [2]) uD_PLACES_0 rfl rfl sD_PLACES_0 vD_PLACES_0) (.cons kD_PLACES_1 (KvV.nums (ns := [2, 5]) uD_PLACES_1 rfl rfl sD_PLACES_1 vD_PLACES_1) (.cons kD_PLACES_2 (KvV.nums (ns := [2, 5, 8]) uD_PLACES_2 rfl rfl sD_PLACES_2 vD_PLACES_2) .nil))),
    _, _, (by rw [PL.clT_at aC_InvalidBarrier]; exact PXE.err_mk X G aC_InvalidBarrier xC_InvalidBarrier ne_InvalidBarrier sa_InvalidBarrier ga_InvalidBarrier gg_InvalidBarrier nv_InvalidBarrier iC_InvalidBarrier tC_InvalidBarrier l1_InvalidBarrier c1_InvalidBarrier lc_InvalidBarrier hv_InvalidBarrier hf_InvalidBarrier lcc_InvalidBarrier hln_InvalidBarrier kC_InvalidBarrier eC_InvalidBarrier vC_InvalidBarrier yC_InvalidBarrier hC_InvalidBarrier isC_InvalidBarrier sC_InvalidBarrier ny_InvalidBarrier mD_InvalidBarrier isD_InvalidBarrier zs_InvalidBarrier tp_InvalidBarrier),
    _, _, (by rw [PL.clT_at aC_InvalidLanes]; exact PXE.err_mk X G aC_InvalidLanes xC_InvalidLanes ne_InvalidLanes sa_InvalidLanes ga_InvalidLanes gg_InvalidLanes nv_InvalidLanes iC_InvalidLanes tC_InvalidLanes l1_InvalidLanes c1_InvalidLanes lc_InvalidLanes hv_InvalidLanes hf_InvalidLanes lcc_InvalidLanes hln_InvalidLanes kC_InvalidLanes eC_InvalidLanes vC_InvalidLanes yC_InvalidLanes hC_InvalidLanes isC_InvalidLanes sC_InvalidLanes ny_InvalidLanes mD_InvalidLanes isD_InvalidLanes zs_InvalidLanes tp_InvalidLanes),
    _, _, (by rw [PL.clT_at aC_InvalidStatement]; exact PXE.err_mk X G aC_InvalidStatement xC_InvalidStatement ne_InvalidStatement sa_InvalidStatement ga_InvalidStatement gg_InvalidStatement nv_InvalidStatement iC_InvalidStatement tC_InvalidStatement l1_InvalidStatement c1_InvalidStatement lc_InvalidStatement hv_InvalidStatement hf_InvalidStatement lcc_InvalidStatement hln_InvalidStatement kC_InvalidStatement eC_InvalidStatement vC_InvalidStatement yC_InvalidStatement hC_InvalidStatement isC_InvalidStatement sC_InvalidStatement ny_InvalidStatement mD_InvalidStatement isD_InvalidStatement zs_InvalidStatement tp_InvalidStatement),
    _, _, (by rw [PL.clT_at aC_InvalidArray]; exact PXE.err_mk X G aC_InvalidArray xC_InvalidArray ne_InvalidArray sa_InvalidArray ga_InvalidArray gg_InvalidArray nv_InvalidArray iC_InvalidArray tC_InvalidArray l1_InvalidArray c1_InvalidArray lc_InvalidArray hv_InvalidArray hf_InvalidArray lcc_InvalidArray hln_InvalidArray kC_InvalidArray eC_InvalidArray vC_InvalidArray yC_InvalidArray hC_InvalidArray isC_InvalidArray sC_InvalidArray ny_InvalidArray mD_InvalidArray isD_InvalidArray zs_InvalidArray tp_InvalidArray),
    _, _, (by rw [PL.clT_at aC_InvalidNumber]; exact PXE.err_mk X G aC_InvalidNumber xC_InvalidNumber ne_InvalidNumber sa_InvalidNumber ga_InvalidNumber gg_InvalidNumber nv_InvalidNumber iC_InvalidNumber tC_InvalidNumber l1_InvalidNumber c1_InvalidNumber lc_InvalidNumber hv_InvalidNumber hf_InvalidNumber lcc_InvalidNumber hln_InvalidNumber kC_InvalidNumber eC_InvalidNumber vC_InvalidNumber yC_InvalidNumber hC_InvalidNumber isC_InvalidNumber sC_InvalidNumber ny_InvalidNumber mD_InvalidNumber isD_InvalidNumber zs_InvalidNumber tp_InvalidNumber),
    (by rw [PL.clT_at aC_InvalidGuard]; exact PySem.W.mg_of X G aC_InvalidGuard),
    (by rw [PL.clT_at aC_InvalidLanes]; exact PySem.W.mg_of X G aC_InvalidLanes),
    (by rw [PL.clT_at aC_InvalidStatement]; exact PySem.W.mg_of X G aC_InvalidStatement),
    (by rw [PL.clT_at aC_InvalidBarrier]; exact PySem.W.mg_of X G aC_InvalidBarrier),
    (by rw [PL.clT_at aC_InvalidAccess]; exact PySem.W.mg_of X G aC_InvalidAccess),
    (by rw [PL.clT_at aC_InvalidNumber]; exact PySem.W.mg_of X G aC_InvalidNumber),
    (by rw [PL.clT_at aC_InvalidArray]; exact PySem.W.mg_of X G aC_InvalidArray),
    (by rw [PL.clT_at aC_NotPlain]; exact PySem.W.mg_of X G aC_NotPlain),
    (by rw [PL.clT_at aC_InvalidSchedule]; exact PySem.W.mg_of X G aC_InvalidSchedule),
    (by rw [PL.clT_at aC_Racing]; exact PySem.W.mg_of X G aC_Racing),
    (by rw [PL.clT_at aC_UnlikeLanes]; exact PySem.W.mg_of X G aC_UnlikeLanes),
    (by rw [PL.clT_at aC_Unreadable]; exact PySem.W.mg_of X G aC_Unreadable),
    (by rw [PL.clT_at aC_NothingToUndo]; exact PySem.W.mg_of X G aC_NothingToUndo),
    (by rw [PL.clT_at aC_StrideError]; exact PySem.W.mg_of X G aC_StrideError),
    PL.errK_clT xkb⟩
theorem all_mk {l : PySem.W.OpenLaw} {w : World} {K : PySem.W.Frag} {h : Heap} {mg : Str → Option Value} {fa : Addr} (X : K.In h) (G : h.Ns mainGlobals mg) (hfa : mg "law" = some (.ref fa))
    {C_Kernel : Addr} (aC_Kernel : PySem.W.nsIn K mainGlobals "Kernel" = some (some (.ref C_Kernel)))
    {f0 : Addr} {oc0 kV0 dc0 pm0 cd0 ct0 : Value} {od0 an0 : Option Addr} {sl0 : Array (Option Value)} (a0 : PySem.W.nsIn K mainGlobals "check_barriers" = some (some (.ref f0))) (l0 : K.lookup f0 = some ⟨oc0, od0, .func (PySem.W.fnOf "check_barriers" "check_barriers" (defArgs s_check_barriers) (defBody s_check_barriers) (defScope s_check_barriers) .none kV0 dc0 pm0 an0 cd0 ct0), sl0⟩) (c0 : PySem.W.codeIn K cd0 "check_barriers" = true) (k0 : PySem.W.keepIn K (.ref f0) = true)
    {f1 : Addr} {oc1 kV1 dc1 pm1 cd1 ct1 : Value} {od1 an1 : Option Addr} {sl1 : Array (Option Value)} (a1 : PySem.W.nsIn K mainGlobals "is_array" = some (some (.ref f1))) (l1 : K.lookup f1 = some ⟨oc1, od1, .func (PySem.W.fnOf "is_array" "is_array" (defArgs s_is_array) (defBody s_is_array) (defScope s_is_array) .none kV1 dc1 pm1 an1 cd1 ct1), sl1⟩) (c1 : PySem.W.codeIn K cd1 "is_array" = true) (k1 : PySem.W.keepIn K (.ref f1) = true)
    {f2 : Addr} {oc2 kV2 dc2 pm2 cd2 ct2 : Value} {od2 an2 : Option Addr} {sl2 : Array (Option Value)} (a2 : PySem.W.nsIn K mainGlobals "is_guard" = some (some (.ref f2))) (l2 : K.lookup f2 = some ⟨oc2, od2, .func (PySem.W.fnOf "is_guard" "is_guard" (defArgs s_is_guard) (defBody s_is_guard) (defScope s_is_guard) .none kV2 dc2 pm2 an2 cd2 ct2), sl2⟩) (c2 : PySem.W.codeIn K cd2 "is_guard" = true) (k2 : PySem.W.keepIn K (.ref f2) = true)
    {f3 : Addr} {oc3 kV3 dc3 pm3 cd3 ct3 : Value} {od3 an3 : Option Addr} {sl3 : Array (Option Value)} (a3 : PySem.W.nsIn K mainGlobals "is_statement" = some (some (.ref f3))) (l3 : K.lookup f3 = some ⟨oc3, od3, .func (PySem.W.fnOf "is_statement" "is_statement" (defArgs s_is_statement) (defBody s_is_statement) (defScope s_is_statement) .none kV3 dc3 pm3 an3 cd3 ct3), sl3⟩) (c3 : PySem.W.codeIn K cd3 "is_statement" = true) (k3 : PySem.W.keepIn K (.ref f3) = true)
    {f4 : Addr} {oc4 kV4 dc4 pm4 cd4 ct4 : Value} {od4 an4 : Option Addr} {sl4 : Array (Option Value)} {T4 : Addr} (a4 : PySem.W.findIn K (.ref C_Kernel) "__init__" = some (some (.ref f4))) (l4 : K.lookup f4 = some ⟨oc4, od4, .func (PySem.W.fnOf "__init__" "Kernel.__init__" (defArgs s_Kernel___init__) (defBody s_Kernel___init__) (defScope s_Kernel___init__) (.ref T4) kV4 dc4 pm4 an4 cd4 ct4), sl4⟩) (c4 : PySem.W.codeIn K cd4 "Kernel.__init__" = true) (k4 : PySem.W.keepIn K (.ref f4) = true)
    {oT4 : Value} {dT4 de4 : Option Addr} {nT4 ne4 : Nat} {sT4 se4 : Array (Option Value)} {e4 : Addr} (m4 : K.lookup T4 = some ⟨oT4, dT4, .seq #[.ref e4] nT4, sT4⟩) (o4 : K.lookup e4 = some ⟨.type "tuple", de4, .seq #[] ne4, se4⟩)
    {f5 : Addr} {oc5 kV5 dc5 pm5 cd5 ct5 : Value} {od5 an5 : Option Addr} {sl5 : Array (Option Value)} (a5 : PySem.W.nsIn K mainGlobals "_law_draw" = some (some (.ref f5))) (l5 : K.lookup f5 = some ⟨oc5, od5, .func (PySem.W.fnOf "_law_draw" "_law_draw" (defArgs s__law_draw) (defBody s__law_draw) (defScope s__law_draw) .none kV5 dc5 pm5 an5 cd5 ct5), sl5⟩) (c5 : PySem.W.codeIn K cd5 "_law_draw" = true) (k5 : PySem.W.keepIn K (.ref f5) = true)
    {f6 : Addr} {oc6 kV6 dc6 pm6 cd6 ct6 : Value} {od6 an6 : Option Addr} {sl6 : Array (Option Value)} (a6 : PySem.W.nsIn K mainGlobals "_law_is_name" = some (some (.ref f6))) (l6 : K.lookup f6 = some ⟨oc6, od6, .func (PySem.W.fnOf "_law_is_name" "_law_is_name" (defArgs s__law_is_name) (defBody s__law_is_name) (defScope s__law_is_name) .none kV6 dc6 pm6 an6 cd6 ct6), sl6⟩) (c6 : PySem.W.codeIn K cd6 "_law_is_name" = true) (k6 : PySem.W.keepIn K (.ref f6) = true)
    {f7 : Addr} {oc7 kV7 dc7 pm7 cd7 ct7 : Value} {od7 an7 : Option Addr} {sl7 : Array (Option Value)} (a7 : PySem.W.nsIn K mainGlobals "_law_name" = some (some (.ref f7))) (l7 : K.lookup f7 = some ⟨oc7, od7, .func (PySem.W.fnOf "_law_name" "_law_name" (defArgs s__law_name) (defBody s__law_name) (defScope s__law_name) .none kV7 dc7 pm7 an7 cd7 ct7), sl7⟩) (c7 : PySem.W.codeIn K cd7 "_law_name" = true) (k7 : PySem.W.keepIn K (.ref f7) = true)
    {f8 : Addr} {oc8 kV8 dc8 pm8 cd8 ct8 : Value} {od8 an8 : Option Addr} {sl8 : Array (Option Value)} (a8 : PySem.W.nsIn K mainGlobals "_law_source" = some (some (.ref f8))) (l8 : K.lookup f8 = some ⟨oc8, od8, .func (PySem.W.fnOf "_law_source" "_law_source" (defArgs s__law_source) (defBody s__law_source) (defScope s__law_source) .none kV8 dc8 pm8 an8 cd8 ct8), sl8⟩) (c8 : PySem.W.codeIn K cd8 "_law_source" = true) (k8 : PySem.W.keepIn K (.ref f8) = true)
    {f9 : Addr} {oc9 kV9 dc9 pm9 cd9 ct9 : Value} {od9 an9 : Option Addr} {sl9 : Array (Option Value)} (a9 : PySem.W.nsIn K mainGlobals "_law_cell" = some (some (.ref f9))) (l9 : K.lookup f9 = some ⟨oc9, od9, .func (PySem.W.fnOf "_law_cell" "_law_cell" (defArgs s__law_cell) (defBody s__law_cell) (defScope s__law_cell) .none kV9 dc9 pm9 an9 cd9 ct9), sl9⟩) (c9 : PySem.W.codeIn K cd9 "_law_cell" = true) (k9 : PySem.W.keepIn K (.ref f9) = true)
    {f10 : Addr} {oc10 kV10 dc10 pm10 cd10 ct10 : Value} {od10 an10 : Option Addr} {sl10 : Array (Option Value)} (a10 : PySem.W.nsIn K mainGlobals "_law_guard" = some (some (.ref f10))) (l10 : K.lookup f10 = some ⟨oc10, od10, .func (PySem.W.fnOf "_law_guard" "_law_guard" (defArgs s__law_guard) (defBody s__law_guard) (defScope s__law_guard) .none kV10 dc10 pm10 an10 cd10 ct10), sl10⟩) (c10 : PySem.W.codeIn K cd10 "_law_guard" = true) (k10 : PySem.W.keepIn K (.ref f10) = true)
    {f11 : Addr} {oc11 kV11 dc11 pm11 cd11 ct11 : Value} {od11 an11 : Option Addr} {sl11 : Array (Option Value)} (a11 : PySem.W.nsIn K mainGlobals "_law_statement" = some (some (.ref f11))) (l11 : K.lookup f11 = some ⟨oc11, od11, .func (PySem.W.fnOf "_law_statement" "_law_statement" (defArgs s__law_statement) (defBody s__law_statement) (defScope s__law_statement) .none kV11 dc11 pm11 an11 cd11 ct11), sl11⟩) (c11 : PySem.W.codeIn K cd11 "_law_statement" = true) (k11 : PySem.W.keepIn K (.ref f11) = true)
    {f12 : Addr} {oc12 kV12 dc12 pm12 cd12 ct12 : Value} {od12 an12 : Option Addr} {sl12 : Array (Option Value)} (a12 : PySem.W.nsIn K mainGlobals "_law_kind_of" = some (some (.ref f12))) (l12 : K.lookup f12 = some ⟨oc12, od12, .func (PySem.W.fnOf "_law_kind_of" "_law_kind_of" (defArgs s__law_kind_of) (defBody s__law_kind_of) (defScope s__law_kind_of) .none kV12 dc12 pm12 an12 cd12 ct12), sl12⟩) (c12 : PySem.W.codeIn K cd12 "_law_kind_of" = true) (k12 : PySem.W.keepIn K (.ref f12) = true)
    {f13 : Addr} {oc13 kV13 dc13 pm13 cd13 ct13 : Value} {od13 an13 : Option Addr} {sl13 : Array (Option Value)} (a13 : PySem.W.nsIn K mainGlobals "check_array" = some (some (.ref f13))) (l13 : K.lookup f13 = some ⟨oc13, od13, .func (PySem.W.fnOf "check_array" "check_array" (defArgs s_check_array) (defBody s_check_array) (defScope s_check_array) .none kV13 dc13 pm13 an13 cd13 ct13), sl13⟩) (c13 : PySem.W.codeIn K cd13 "check_array" = true) (k13 : PySem.W.keepIn K (.ref f13) = true)
    {f14 : Addr} {oc14 kV14 dc14 pm14 cd14 ct14 : Value} {od14 an14 : Option Addr} {sl14 : Array (Option Value)} (a14 : PySem.W.nsIn K mainGlobals "first_of" = some (some (.ref f14))) (l14 : K.lookup f14 = some ⟨oc14, od14, .func (PySem.W.fnOf "first_of" "first_of" (defArgs s_first_of) (defBody s_first_of) (defScope s_first_of) .none kV14 dc14 pm14 an14 cd14 ct14), sl14⟩) (c14 : PySem.W.codeIn K cd14 "first_of" = true) (k14 : PySem.W.keepIn K (.ref f14) = true)
    {f15 : Addr} {oc15 kV15 dc15 pm15 cd15 ct15 : Value} {od15 an15 : Option Addr} {sl15 : Array (Option Value)} (a15 : PySem.W.nsIn K mainGlobals "lanes_of" = some (some (.ref f15))) (l15 : K.lookup f15 = some ⟨oc15, od15, .func (PySem.W.fnOf "lanes_of" "lanes_of" (defArgs s_lanes_of) (defBody s_lanes_of) (defScope s_lanes_of) .none kV15 dc15 pm15 an15 cd15 ct15), sl15⟩) (c15 : PySem.W.codeIn K cd15 "lanes_of" = true) (k15 : PySem.W.keepIn K (.ref f15) = true)
    {f16 : Addr} {oc16 kV16 dc16 pm16 cd16 ct16 : Value} {od16 an16 : Option Addr} {sl16 : Array (Option Value)} (a16 : PySem.W.nsIn K mainGlobals "bezout" = some (some (.ref f16))) (l16 : K.lookup f16 = some ⟨oc16, od16, .func (PySem.W.fnOf "bezout" "bezout" (defArgs s_bezout) (defBody s_bezout) (defScope s_bezout) .none kV16 dc16 pm16 an16 cd16 ct16), sl16⟩) (c16 : PySem.W.codeIn K cd16 "bezout" = true) (k16 : PySem.W.keepIn K (.ref f16) = true)
    {f17 : Addr} {oc17 kV17 dc17 pm17 cd17 ct17 : Value} {od17 an17 : Option Addr} {sl17 : Array (Option Value)} (a17 : PySem.W.nsIn K mainGlobals "meeting" = some (some (.ref f17))) (l17 : K.lookup f17 = some ⟨oc17, od17, .func (PySem.W.fnOf "meeting" "meeting" (defArgs s_meeting) (defBody s_meeting) (defScope s_meeting) .none kV17 dc17 pm17 an17 cd17 ct17), sl17⟩) (c17 : PySem.W.codeIn K cd17 "meeting" = true) (k17 : PySem.W.keepIn K (.ref f17) = true)
    {f18 : Addr} {oc18 kV18 dc18 pm18 cd18 ct18 : Value} {od18 an18 : Option Addr} {sl18 : Array (Option Value)} (a18 : PySem.W.nsIn K mainGlobals "count_union" = some (some (.ref f18))) (l18 : K.lookup f18 = some ⟨oc18, od18, .func (PySem.W.fnOf "count_union" "count_union" (defArgs s_count_union) (defBody s_count_union) (defScope s_count_union) .none kV18 dc18 pm18 an18 cd18 ct18), sl18⟩) (c18 : PySem.W.codeIn K cd18 "count_union" = true) (k18 : PySem.W.keepIn K (.ref f18) = true)
    {f19 : Addr} {oc19 kV19 dc19 pm19 cd19 ct19 : Value} {od19 an19 : Option Addr} {sl19 : Array (Option Value)} (a19 : PySem.W.nsIn K mainGlobals "accesses_in" = some (some (.ref f19))) (l19 : K.lookup f19 = some ⟨oc19, od19, .func (PySem.W.fnOf "accesses_in" "accesses_in" (defArgs s_accesses_in) (defBody s_accesses_in) (defScope s_accesses_in) .none kV19 dc19 pm19 an19 cd19 ct19), sl19⟩) (c19 : PySem.W.codeIn K cd19 "accesses_in" = true) (k19 : PySem.W.keepIn K (.ref f19) = true)
    {f20 : Addr} {oc20 kV20 dc20 pm20 cd20 ct20 : Value} {od20 an20 : Option Addr} {sl20 : Array (Option Value)} (a20 : PySem.W.nsIn K mainGlobals "access_list" = some (some (.ref f20))) (l20 : K.lookup f20 = some ⟨oc20, od20, .func (PySem.W.fnOf "access_list" "access_list" (defArgs s_access_list) (defBody s_access_list) (defScope s_access_list) .none kV20 dc20 pm20 an20 cd20 ct20), sl20⟩) (c20 : PySem.W.codeIn K cd20 "access_list" = true) (k20 : PySem.W.keepIn K (.ref f20) = true)
    {f21 : Addr} {oc21 kV21 dc21 pm21 cd21 ct21 : Value} {od21 an21 : Option Addr} {sl21 : Array (Option Value)} (a21 : PySem.W.nsIn K mainGlobals "cells_of" = some (some (.ref f21))) (l21 : K.lookup f21 = some ⟨oc21, od21, .func (PySem.W.fnOf "cells_of" "cells_of" (defArgs s_cells_of) (defBody s_cells_of) (defScope s_cells_of) .none kV21 dc21 pm21 an21 cd21 ct21), sl21⟩) (c21 : PySem.W.codeIn K cd21 "cells_of" = true) (k21 : PySem.W.keepIn K (.ref f21) = true)
    {f22 : Addr} {oc22 kV22 dc22 pm22 cd22 ct22 : Value} {od22 an22 : Option Addr} {sl22 : Array (Option Value)} (a22 : PySem.W.nsIn K mainGlobals "written_rows" = some (some (.ref f22))) (l22 : K.lookup f22 = some ⟨oc22, od22, .func (PySem.W.fnOf "written_rows" "written_rows" (defArgs s_written_rows) (defBody s_written_rows) (defScope s_written_rows) .none kV22 dc22 pm22 an22 cd22 ct22), sl22⟩) (c22 : PySem.W.codeIn K cd22 "written_rows" = true) (k22 : PySem.W.keepIn K (.ref f22) = true)
    {f23 : Addr} {oc23 kV23 dc23 pm23 cd23 ct23 : Value} {od23 an23 : Option Addr} {sl23 : Array (Option Value)} (a23 : PySem.W.nsIn K mainGlobals "count_written" = some (some (.ref f23))) (l23 : K.lookup f23 = some ⟨oc23, od23, .func (PySem.W.fnOf "count_written" "count_written" (defArgs s_count_written) (defBody s_count_written) (defScope s_count_written) .none kV23 dc23 pm23 an23 cd23 ct23), sl23⟩) (c23 : PySem.W.codeIn K cd23 "count_written" = true) (k23 : PySem.W.keepIn K (.ref f23) = true)
    {f24 : Addr} {oc24 kV24 dc24 pm24 cd24 ct24 : Value} {od24 an24 : Option Addr} {sl24 : Array (Option Value)} (a24 : PySem.W.nsIn K mainGlobals "has" = some (some (.ref f24))) (l24 : K.lookup f24 = some ⟨oc24, od24, .func (PySem.W.fnOf "has" "has" (defArgs s_has) (defBody s_has) (defScope s_has) .none kV24 dc24 pm24 an24 cd24 ct24), sl24⟩) (c24 : PySem.W.codeIn K cd24 "has" = true) (k24 : PySem.W.keepIn K (.ref f24) = true)
    {f25 : Addr} {oc25 kV25 dc25 pm25 cd25 ct25 : Value} {od25 an25 : Option Addr} {sl25 : Array (Option Value)} (a25 : PySem.W.nsIn K mainGlobals "is_written" = some (some (.ref f25))) (l25 : K.lookup f25 = some ⟨oc25, od25, .func (PySem.W.fnOf "is_written" "is_written" (defArgs s_is_written) (defBody s_is_written) (defScope s_is_written) .none kV25 dc25 pm25 an25 cd25 ct25), sl25⟩) (c25 : PySem.W.codeIn K cd25 "is_written" = true) (k25 : PySem.W.keepIn K (.ref f25) = true)
    {f26 : Addr} {oc26 kV26 dc26 pm26 cd26 ct26 : Value} {od26 an26 : Option Addr} {sl26 : Array (Option Value)} (a26 : PySem.W.nsIn K mainGlobals "rows_below" = some (some (.ref f26))) (l26 : K.lookup f26 = some ⟨oc26, od26, .func (PySem.W.fnOf "rows_below" "rows_below" (defArgs s_rows_below) (defBody s_rows_below) (defScope s_rows_below) .none kV26 dc26 pm26 an26 cd26 ct26), sl26⟩) (c26 : PySem.W.codeIn K cd26 "rows_below" = true) (k26 : PySem.W.keepIn K (.ref f26) = true)
    {f27 : Addr} {oc27 kV27 dc27 pm27 cd27 ct27 : Value} {od27 an27 : Option Addr} {sl27 : Array (Option Value)} (a27 : PySem.W.nsIn K mainGlobals "nth_written" = some (some (.ref f27))) (l27 : K.lookup f27 = some ⟨oc27, od27, .func (PySem.W.fnOf "nth_written" "nth_written" (defArgs s_nth_written) (defBody s_nth_written) (defScope s_nth_written) .none kV27 dc27 pm27 an27 cd27 ct27), sl27⟩) (c27 : PySem.W.codeIn K cd27 "nth_written" = true) (k27 : PySem.W.keepIn K (.ref f27) = true)
    {f28 : Addr} {oc28 kV28 dc28 pm28 cd28 ct28 : Value} {od28 an28 : Option Addr} {sl28 : Array (Option Value)} (a28 : PySem.W.nsIn K mainGlobals "written_below" = some (some (.ref f28))) (l28 : K.lookup f28 = some ⟨oc28, od28, .func (PySem.W.fnOf "written_below" "written_below" (defArgs s_written_below) (defBody s_written_below) (defScope s_written_below) .none kV28 dc28 pm28 an28 cd28 ct28), sl28⟩) (c28 : PySem.W.codeIn K cd28 "written_below" = true) (k28 : PySem.W.keepIn K (.ref f28) = true)
    {f29 : Addr} {oc29 kV29 dc29 pm29 cd29 ct29 : Value} {od29 an29 : Option Addr} {sl29 : Array (Option Value)} (a29 : PySem.W.nsIn K mainGlobals "_law_told" = some (some (.ref f29))) (l29 : K.lookup f29 = some ⟨oc29, od29, .func (PySem.W.fnOf "_law_told" "_law_told" (defArgs s__law_told) (defBody s__law_told) (defScope s__law_told) .none kV29 dc29 pm29 an29 cd29 ct29), sl29⟩) (c29 : PySem.W.codeIn K cd29 "_law_told" = true) (k29 : PySem.W.keepIn K (.ref f29) = true)
    {f30 : Addr} {oc30 kV30 dc30 pm30 cd30 ct30 : Value} {od30 an30 : Option Addr} {sl30 : Array (Option Value)} (a30 : PySem.W.nsIn K mainGlobals "law" = some (some (.ref f30))) (l30 : K.lookup f30 = some ⟨oc30, od30, .func (PySem.W.fnOf "law" "law" (defArgs s_law) (defBody s_law) (defScope s_law) .none kV30 dc30 pm30 an30 cd30 ct30), sl30⟩) (c30 : PySem.W.codeIn K cd30 "law" = true) (k30 : PySem.W.keepIn K (.ref f30) = true)
    (z_ValueError : PySem.W.nsIn K mainGlobals "ValueError" = some none)
    (z_abs : PySem.W.nsIn K mainGlobals "abs" = some none)
    (z_all : PySem.W.nsIn K mainGlobals "all" = some none)
    (z_any : PySem.W.nsIn K mainGlobals "any" = some none)
    (z_enumerate : PySem.W.nsIn K mainGlobals "enumerate" = some none)
    (z_isinstance : PySem.W.nsIn K mainGlobals "isinstance" = some none)
    (z_len : PySem.W.nsIn K mainGlobals "len" = some none)
    (z_max : PySem.W.nsIn K mainGlobals "max" = some none)
    (z_min : PySem.W.nsIn K mainGlobals "min" = some none)
    (z_range : PySem.W.nsIn K mainGlobals "range" = some none)
    (z_tuple : PySem.W.nsIn K mainGlobals "tuple" = some none)
    {tk_MOST_LETTERS : Tok} (n_MOST_LETTERS : PySem.W.nsIn K mainGlobals "MOST_LETTERS" = some (some (.int 8 tk_MOST_LETTERS)))
    {tk_LETTERS : Tok} (n_LETTERS : PySem.W.nsIn K mainGlobals "LETTERS" = some (some (.str "abcdefghijklmnopqrstuvwxyz" tk_LETTERS)))
    {tk_READ : Tok} (n_READ : PySem.W.nsIn K mainGlobals "READ" = some (some (.str "read" tk_READ)))
    {tk_WRITE : Tok} (n_WRITE : PySem.W.nsIn K mainGlobals "WRITE" = some (some (.str "write" tk_WRITE)))
    (pg_Kernel : PySem.W.plainGet K C_Kernel Str.empty = true)
    (hd_Kernel : PySem.W.hasDictIn K C_Kernel = true)
    (po_Kernel : PySem.W.plainOver K C_Kernel = true)
    (sa_Kernel : PySem.W.findIn K (.ref C_Kernel) "__setattr__" = some (some (.builtin "object.__setattr__")))
    (mi_Kernel : PySem.W.makesIn K C_Kernel = true)
    (kc_Kernel : PySem.W.keepIn K (.ref C_Kernel) = true)
    (fi_Kernel : PySem.W.isFn K (.ref f4) = true)
    (na_Kernel_lane_count : PySem.W.findIn K (.ref C_Kernel) "lane_count" = some none)
    (na_Kernel_kept_statements : PySem.W.findIn K (.ref C_Kernel) "kept_statements" = some none)
    (na_Kernel_kept_barriers : PySem.W.findIn K (.ref C_Kernel) "kept_barriers" = some none)
    {p_ITEMS : Addr} {es_ITEMS : Array DictEntry} {n_ITEMS : Nat} (aD_ITEMS : PySem.W.nsIn K mainGlobals "ITEMS" = some (some (.ref p_ITEMS))) (lD_ITEMS : K.lookup p_ITEMS = some ⟨.type "dict", none, .dict es_ITEMS n_ITEMS, #[]⟩) (tD_ITEMS : es_ITEMS.toList.map He.keyOf = He.keysIn w.params ["put", "move", "sum"]) (wD_ITEMS : (p_ITEMS == sysModules) = false)
    {tk_ITEMS_0 : Tok} (kD_ITEMS_0 : PySem.W.nsIn K p_ITEMS "put" = some (some (.int 7 tk_ITEMS_0)))
    {tk_ITEMS_1 : Tok} (kD_ITEMS_1 : PySem.W.nsIn K p_ITEMS "move" = some (some (.int 9 tk_ITEMS_1)))
    {tk_ITEMS_2 : Tok} (kD_ITEMS_2 : PySem.W.nsIn K p_ITEMS "sum" = some (some (.int 11 tk_ITEMS_2)))
    {p_PLACES : Addr} {es_PLACES : Array DictEntry} {n_PLACES : Nat} (aD_PLACES : PySem.W.nsIn K mainGlobals "PLACES" = some (some (.ref p_PLACES))) (lD_PLACES : K.lookup p_PLACES = some ⟨.type "dict", none, .dict es_PLACES n_PLACES, #[]⟩) (tD_PLACES : es_PLACES.toList.map He.keyOf = He.keysIn w.params ["put", "move", "sum"]) (wD_PLACES : (p_PLACES == sysModules) = false)
    {r_PLACES_0 : Addr} {od_PLACES_0 : Option Addr} {it_PLACES_0 : Array Value} {nn_PLACES_0 : Nat} {sl_PLACES_0 : Array (Option Value)} (kD_PLACES_0 : PySem.W.nsIn K p_PLACES "put" = some (some (.ref r_PLACES_0))) (uD_PLACES_0 : K.lookup r_PLACES_0 = some ⟨.type "tuple", od_PLACES_0, .seq it_PLACES_0 nn_PLACES_0, sl_PLACES_0⟩) (sD_PLACES_0 : it_PLACES_0.size ≤ sizeLine) (vD_PLACES_0 : Vals (([2] : List Int).map V.int) it_PLACES_0.toList)
    {r_PLACES_1 : Addr} {od_PLACES_1 : Option Addr} {it_PLACES_1 : Array Value} {nn_PLACES_1 : Nat} {sl_PLACES_1 : Array (Option Value)} (kD_PLACES_1 : PySem.W.nsIn K p_PLACES "move" = some (some (.ref r_PLACES_1))) (uD_PLACES_1 : K.lookup r_PLACES_1 = some ⟨.type "tuple", od_PLACES_1, .seq it_PLACES_1 nn_PLACES_1, sl_PLACES_1⟩) (sD_PLACES_1 : it_PLACES_1.size ≤ sizeLine) (vD_PLACES_1 : Vals (([2, 5] : List Int).map V.int) it_PLACES_1.toList)
    {r_PLACES_2 : Addr} {od_PLACES_2 : Option Addr} {it_PLACES_2 : Array Value} {nn_PLACES_2 : Nat} {sl_PLACES_2 : Array (Option Value)} (kD_PLACES_2 : PySem.W.nsIn K p_PLACES "sum" = some (some (.ref r_PLACES_2))) (uD_PLACES_2 : K.lookup r_PLACES_2 = some ⟨.type "tuple", od_PLACES_2, .seq it_PLACES_2 nn_PLACES_2, sl_PLACES_2⟩) (sD_PLACES_2 : it_PLACES_2.size ≤ sizeLine) (vD_PLACES_2 : Vals (([2, 5, 8] : List Int).map V.int) it_PLACES_2.toList)
    {C_InvalidBarrier D_InvalidBarrier fI_InvalidBarrier cda_InvalidBarrier cc_InvalidBarrier N_InvalidBarrier : Addr} {n_InvalidBarrier q_InvalidBarrier file_InvalidBarrier : Str} {bs_InvalidBarrier : List Value} {sn_InvalidBarrier : List Str} {sub_InvalidBarrier : List Value} {ab_InvalidBarrier : Bool} {col_InvalidBarrier : Option Bool} {dd_InvalidBarrier od_InvalidBarrier an_InvalidBarrier cdd_InvalidBarrier cld_InvalidBarrier : Option Addr} {k0_InvalidBarrier k1_InvalidBarrier k2_InvalidBarrier k3_InvalidBarrier k5_InvalidBarrier : Option Value} {oc_InvalidBarrier doc_InvalidBarrier pm_InvalidBarrier ct_InvalidBarrier ccl_InvalidBarrier cl_InvalidBarrier : Value} {osl_InvalidBarrier ccs_InvalidBarrier csl_InvalidBarrier : Array (Option Value)} {ln_InvalidBarrier : Nat} {p1_InvalidBarrier p2_InvalidBarrier q1_InvalidBarrier q2_InvalidBarrier q3_InvalidBarrier q4_InvalidBarrier : Pos} {vs_InvalidBarrier : Array Value} {tf_InvalidBarrier : Tok}
    (aC_InvalidBarrier : PySem.W.nsIn K mainGlobals "InvalidBarrier" = some (some (.ref C_InvalidBarrier)))
    (xC_InvalidBarrier : K.lookup C_InvalidBarrier = some (excClassObj n_InvalidBarrier q_InvalidBarrier C_InvalidBarrier N_InvalidBarrier bs_InvalidBarrier (.ref D_InvalidBarrier :: PXE.veBm) true sn_InvalidBarrier sub_InvalidBarrier ab_InvalidBarrier col_InvalidBarrier dd_InvalidBarrier k0_InvalidBarrier k1_InvalidBarrier k2_InvalidBarrier k3_InvalidBarrier k5_InvalidBarrier "ValueError.__new__")) (ne_InvalidBarrier : (Value.ref C_InvalidBarrier != Value.ref D_InvalidBarrier) = true)
    (sa_InvalidBarrier : PySem.W.findIn K (.ref C_InvalidBarrier) "__setattr__" = some (some (.builtin "object.__setattr__"))) (ga_InvalidBarrier : PySem.W.findIn K (.ref C_InvalidBarrier) "__getattribute__" = some (some (.builtin "BaseException.__getattribute__"))) (gg_InvalidBarrier : PySem.W.findIn K (.ref C_InvalidBarrier) "__getattr__" = some none) (nv_InvalidBarrier : PySem.W.findIn K (.ref C_InvalidBarrier) "value" = some none)
    (iC_InvalidBarrier : PySem.W.findIn K (.ref C_InvalidBarrier) "__init__" = some (some (.ref fI_InvalidBarrier))) (tC_InvalidBarrier : PySem.W.typeIn K (.ref fI_InvalidBarrier) = some (.type "function"))
    (l1_InvalidBarrier : K.lookup fI_InvalidBarrier = some ⟨oc_InvalidBarrier, od_InvalidBarrier, .func (PySem.W.ksFn "__init__" "StrideError.__init__" (PXE.xA p1_InvalidBarrier p2_InvalidBarrier) (PXE.xB ln_InvalidBarrier q1_InvalidBarrier q2_InvalidBarrier q3_InvalidBarrier q4_InvalidBarrier) PXE.xS .none .none doc_InvalidBarrier pm_InvalidBarrier an_InvalidBarrier (.ref cda_InvalidBarrier) ct_InvalidBarrier cc_InvalidBarrier), osl_InvalidBarrier⟩) (c1_InvalidBarrier : PySem.W.codeIn K (.ref cda_InvalidBarrier) "StrideError.__init__" = true)
    (lc_InvalidBarrier : K.lookup cda_InvalidBarrier = some ⟨ccl_InvalidBarrier, cdd_InvalidBarrier, .fields vs_InvalidBarrier, ccs_InvalidBarrier⟩) (hv_InvalidBarrier : vs_InvalidBarrier[2]? = some (.str file_InvalidBarrier tf_InvalidBarrier)) (hf_InvalidBarrier : ((l.prog.main.file : Str) == file_InvalidBarrier) = true) (lcc_InvalidBarrier : K.lookup cc_InvalidBarrier = some ⟨cl_InvalidBarrier, cld_InvalidBarrier, .cell (some (.ref D_InvalidBarrier)), csl_InvalidBarrier⟩) (hln_InvalidBarrier : ln_InvalidBarrier = 5 ∨ ln_InvalidBarrier = 8)
    (kC_InvalidBarrier : PySem.W.keepIn K (.ref C_InvalidBarrier) = true) (eC_InvalidBarrier : PySem.W.subIn K (.ref C_InvalidBarrier) (.type "BaseException") = some true) (vC_InvalidBarrier : PySem.W.subIn K (.ref C_InvalidBarrier) (.type "ValueError") = some true) (yC_InvalidBarrier : PySem.W.typeIn K (.ref C_InvalidBarrier) = some (.type "type")) (hC_InvalidBarrier : PySem.W.hasDictIn K C_InvalidBarrier = true) (isC_InvalidBarrier : PySem.W.isClsIn K C_InvalidBarrier = true) (sC_InvalidBarrier : PySem.W.subIn K (.ref C_InvalidBarrier) (.ref C_InvalidBarrier) = some true)
    (ny_InvalidBarrier : PySem.W.nsIn K cStatics "thirdparty.any" = some none) (mD_InvalidBarrier : PySem.W.mroIn K C_InvalidBarrier (.ref D_InvalidBarrier) = some true) (isD_InvalidBarrier : PySem.W.isClsIn K D_InvalidBarrier = true) (zs_InvalidBarrier : PySem.W.nsIn K mainGlobals "super" = some none) (tp_InvalidBarrier : (l.prog.main.scope.names.lookup ("super" : Str)).isSome = false)
    {C_InvalidLanes D_InvalidLanes fI_InvalidLanes cda_InvalidLanes cc_InvalidLanes N_InvalidLanes : Addr} {n_InvalidLanes q_InvalidLanes file_InvalidLanes : Str} {bs_InvalidLanes : List Value} {sn_InvalidLanes : List Str} {sub_InvalidLanes : List Value} {ab_InvalidLanes : Bool} {col_InvalidLanes : Option Bool} {dd_InvalidLanes od_InvalidLanes an_InvalidLanes cdd_InvalidLanes cld_InvalidLanes : Option Addr} {k0_InvalidLanes k1_InvalidLanes k2_InvalidLanes k3_InvalidLanes k5_InvalidLanes : Option Value} {oc_InvalidLanes doc_InvalidLanes pm_InvalidLanes ct_InvalidLanes ccl_InvalidLanes cl_InvalidLanes : Value} {osl_InvalidLanes ccs_InvalidLanes csl_InvalidLanes : Array (Option Value)} {ln_InvalidLanes : Nat} {p1_InvalidLanes p2_InvalidLanes q1_InvalidLanes q2_InvalidLanes q3_InvalidLanes q4_InvalidLanes : Pos} {vs_InvalidLanes : Array Value} {tf_InvalidLanes : Tok}
    (aC_InvalidLanes : PySem.W.nsIn K mainGlobals "InvalidLanes" = some (some (.ref C_InvalidLanes)))
    (xC_InvalidLanes : K.lookup C_InvalidLanes = some (excClassObj n_InvalidLanes q_InvalidLanes C_InvalidLanes N_InvalidLanes bs_InvalidLanes (.ref D_InvalidLanes :: PXE.veBm) true sn_InvalidLanes sub_InvalidLanes ab_InvalidLanes col_InvalidLanes dd_InvalidLanes k0_InvalidLanes k1_InvalidLanes k2_InvalidLanes k3_InvalidLanes k5_InvalidLanes "ValueError.__new__")) (ne_InvalidLanes : (Value.ref C_InvalidLanes != Value.ref D_InvalidLanes) = true)
    (sa_InvalidLanes : PySem.W.findIn K (.ref C_InvalidLanes) "__setattr__" = some (some (.builtin "object.__setattr__"))) (ga_InvalidLanes : PySem.W.findIn K (.ref C_InvalidLanes) "__getattribute__" = some (some (.builtin "BaseException.__getattribute__"))) (gg_InvalidLanes : PySem.W.findIn K (.ref C_InvalidLanes) "__getattr__" = some none) (nv_InvalidLanes : PySem.W.findIn K (.ref C_InvalidLanes) "value" = some none)
    (iC_InvalidLanes : PySem.W.findIn K (.ref C_InvalidLanes) "__init__" = some (some (.ref fI_InvalidLanes))) (tC_InvalidLanes : PySem.W.typeIn K (.ref fI_InvalidLanes) = some (.type "function"))
    (l1_InvalidLanes : K.lookup fI_InvalidLanes = some ⟨oc_InvalidLanes, od_InvalidLanes, .func (PySem.W.ksFn "__init__" "StrideError.__init__" (PXE.xA p1_InvalidLanes p2_InvalidLanes) (PXE.xB ln_InvalidLanes q1_InvalidLanes q2_InvalidLanes q3_InvalidLanes q4_InvalidLanes) PXE.xS .none .none doc_InvalidLanes pm_InvalidLanes an_InvalidLanes (.ref cda_InvalidLanes) ct_InvalidLanes cc_InvalidLanes), osl_InvalidLanes⟩) (c1_InvalidLanes : PySem.W.codeIn K (.ref cda_InvalidLanes) "StrideError.__init__" = true)
    (lc_InvalidLanes : K.lookup cda_InvalidLanes = some ⟨ccl_InvalidLanes, cdd_InvalidLanes, .fields vs_InvalidLanes, ccs_InvalidLanes⟩) (hv_InvalidLanes : vs_InvalidLanes[2]? = some (.str file_InvalidLanes tf_InvalidLanes)) (hf_InvalidLanes : ((l.prog.main.file : Str) == file_InvalidLanes) = true) (lcc_InvalidLanes : K.lookup cc_InvalidLanes = some ⟨cl_InvalidLanes, cld_InvalidLanes, .cell (some (.ref D_InvalidLanes)), csl_InvalidLanes⟩) (hln_InvalidLanes : ln_InvalidLanes = 5 ∨ ln_InvalidLanes = 8)
    (kC_InvalidLanes : PySem.W.keepIn K (.ref C_InvalidLanes) = true) (eC_InvalidLanes : PySem.W.subIn K (.ref C_InvalidLanes) (.type "BaseException") = some true) (vC_InvalidLanes : PySem.W.subIn K (.ref C_InvalidLanes) (.type "ValueError") = some true) (yC_InvalidLanes : PySem.W.typeIn K (.ref C_InvalidLanes) = some (.type "type")) (hC_InvalidLanes : PySem.W.hasDictIn K C_InvalidLanes = true) (isC_InvalidLanes : PySem.W.isClsIn K C_InvalidLanes = true) (sC_InvalidLanes : PySem.W.subIn K (.ref C_InvalidLanes) (.ref C_InvalidLanes) = some true)
    (ny_InvalidLanes : PySem.W.nsIn K cStatics "thirdparty.any" = some none) (mD_InvalidLanes : PySem.W.mroIn K C_InvalidLanes (.ref D_InvalidLanes) = some true) (isD_InvalidLanes : PySem.W.isClsIn K D_InvalidLanes = true) (zs_InvalidLanes : PySem.W.nsIn K mainGlobals "super" = some none) (tp_InvalidLanes : (l.prog.main.scope.names.lookup ("super" : Str)).isSome = false)
    {C_InvalidStatement D_InvalidStatement fI_InvalidStatement cda_InvalidStatement cc_InvalidStatement N_InvalidStatement : Addr} {n_InvalidStatement q_InvalidStatement file_InvalidStatement : Str} {bs_InvalidStatement : List Value} {sn_InvalidStatement : List Str} {sub_InvalidStatement : List Value} {ab_InvalidStatement : Bool} {col_InvalidStatement : Option Bool} {dd_InvalidStatement od_InvalidStatement an_InvalidStatement cdd_InvalidStatement cld_InvalidStatement : Option Addr} {k0_InvalidStatement k1_InvalidStatement k2_InvalidStatement k3_InvalidStatement k5_InvalidStatement : Option Value} {oc_InvalidStatement doc_InvalidStatement pm_InvalidStatement ct_InvalidStatement ccl_InvalidStatement cl_InvalidStatement : Value} {osl_InvalidStatement ccs_InvalidStatement csl_InvalidStatement : Array (Option Value)} {ln_InvalidStatement : Nat} {p1_InvalidStatement p2_InvalidStatement q1_InvalidStatement q2_InvalidStatement q3_InvalidStatement q4_InvalidStatement : Pos} {vs_InvalidStatement : Array Value} {tf_InvalidStatement : Tok}
    (aC_InvalidStatement : PySem.W.nsIn K mainGlobals "InvalidStatement" = some (some (.ref C_InvalidStatement)))
    (xC_InvalidStatement : K.lookup C_InvalidStatement = some (excClassObj n_InvalidStatement q_InvalidStatement C_InvalidStatement N_InvalidStatement bs_InvalidStatement (.ref D_InvalidStatement :: PXE.veBm) true sn_InvalidStatement sub_InvalidStatement ab_InvalidStatement col_InvalidStatement dd_InvalidStatement k0_InvalidStatement k1_InvalidStatement k2_InvalidStatement k3_InvalidStatement k5_InvalidStatement "ValueError.__new__")) (ne_InvalidStatement : (Value.ref C_InvalidStatement != Value.ref D_InvalidStatement) = true)
    (sa_InvalidStatement : PySem.W.findIn K (.ref C_InvalidStatement) "__setattr__" = some (some (.builtin "object.__setattr__"))) (ga_InvalidStatement : PySem.W.findIn K (.ref C_InvalidStatement) "__getattribute__" = some (some (.builtin "BaseException.__getattribute__"))) (gg_InvalidStatement : PySem.W.findIn K (.ref C_InvalidStatement) "__getattr__" = some none) (nv_InvalidStatement : PySem.W.findIn K (.ref C_InvalidStatement) "value" = some none)
    (iC_InvalidStatement : PySem.W.findIn K (.ref C_InvalidStatement) "__init__" = some (some (.ref fI_InvalidStatement))) (tC_InvalidStatement : PySem.W.typeIn K (.ref fI_InvalidStatement) = some (.type "function"))
    (l1_InvalidStatement : K.lookup fI_InvalidStatement = some ⟨oc_InvalidStatement, od_InvalidStatement, .func (PySem.W.ksFn "__init__" "StrideError.__init__" (PXE.xA p1_InvalidStatement p2_InvalidStatement) (PXE.xB ln_InvalidStatement q1_InvalidStatement q2_InvalidStatement q3_InvalidStatement q4_InvalidStatement) PXE.xS .none .none doc_InvalidStatement pm_InvalidStatement an_InvalidStatement (.ref cda_InvalidStatement) ct_InvalidStatement cc_InvalidStatement), osl_InvalidStatement⟩) (c1_InvalidStatement : PySem.W.codeIn K (.ref cda_InvalidStatement) "StrideError.__init__" = true)
    (lc_InvalidStatement : K.lookup cda_InvalidStatement = some ⟨ccl_InvalidStatement, cdd_InvalidStatement, .fields vs_InvalidStatement, ccs_InvalidStatement⟩) (hv_InvalidStatement : vs_InvalidStatement[2]? = some (.str file_InvalidStatement tf_InvalidStatement)) (hf_InvalidStatement : ((l.prog.main.file : Str) == file_InvalidStatement) = true) (lcc_InvalidStatement : K.lookup cc_InvalidStatement = some ⟨cl_InvalidStatement, cld_InvalidStatement, .cell (some (.ref D_InvalidStatement)), csl_InvalidStatement⟩) (hln_InvalidStatement : ln_InvalidStatement = 5 ∨ ln_InvalidStatement = 8)
    (kC_InvalidStatement : PySem.W.keepIn K (.ref C_InvalidStatement) = true) (eC_InvalidStatement : PySem.W.subIn K (.ref C_InvalidStatement) (.type "BaseException") = some true) (vC_InvalidStatement : PySem.W.subIn K (.ref C_InvalidStatement) (.type "ValueError") = some true) (yC_InvalidStatement : PySem.W.typeIn K (.ref C_InvalidStatement) = some (.type "type")) (hC_InvalidStatement : PySem.W.hasDictIn K C_InvalidStatement = true) (isC_InvalidStatement : PySem.W.isClsIn K C_InvalidStatement = true) (sC_InvalidStatement : PySem.W.subIn K (.ref C_InvalidStatement) (.ref C_InvalidStatement) = some true)
    (ny_InvalidStatement : PySem.W.nsIn K cStatics "thirdparty.any" = some none) (mD_InvalidStatement : PySem.W.mroIn K C_InvalidStatement (.ref D_InvalidStatement) = some true) (isD_InvalidStatement : PySem.W.isClsIn K D_InvalidStatement = true) (zs_InvalidStatement : PySem.W.nsIn K mainGlobals "super" = some none) (tp_InvalidStatement : (l.prog.main.scope.names.lookup ("super" : Str)).isSome = false)
    {C_InvalidArray D_InvalidArray fI_InvalidArray cda_InvalidArray cc_InvalidArray N_InvalidArray : Addr} {n_InvalidArray q_InvalidArray file_InvalidArray : Str} {bs_InvalidArray : List Value} {sn_InvalidArray : List Str} {sub_InvalidArray : List Value} {ab_InvalidArray : Bool} {col_InvalidArray : Option Bool} {dd_InvalidArray od_InvalidArray an_InvalidArray cdd_InvalidArray cld_InvalidArray : Option Addr} {k0_InvalidArray k1_InvalidArray k2_InvalidArray k3_InvalidArray k5_InvalidArray : Option Value} {oc_InvalidArray doc_InvalidArray pm_InvalidArray ct_InvalidArray ccl_InvalidArray cl_InvalidArray : Value} {osl_InvalidArray ccs_InvalidArray csl_InvalidArray : Array (Option Value)} {ln_InvalidArray : Nat} {p1_InvalidArray p2_InvalidArray q1_InvalidArray q2_InvalidArray q3_InvalidArray q4_InvalidArray : Pos} {vs_InvalidArray : Array Value} {tf_InvalidArray : Tok}
    (aC_InvalidArray : PySem.W.nsIn K mainGlobals "InvalidArray" = some (some (.ref C_InvalidArray)))
    (xC_InvalidArray : K.lookup C_InvalidArray = some (excClassObj n_InvalidArray q_InvalidArray C_InvalidArray N_InvalidArray bs_InvalidArray (.ref D_InvalidArray :: PXE.veBm) true sn_InvalidArray sub_InvalidArray ab_InvalidArray col_InvalidArray dd_InvalidArray k0_InvalidArray k1_InvalidArray k2_InvalidArray k3_InvalidArray k5_InvalidArray "ValueError.__new__")) (ne_InvalidArray : (Value.ref C_InvalidArray != Value.ref D_InvalidArray) = true)
    (sa_InvalidArray : PySem.W.findIn K (.ref C_InvalidArray) "__setattr__" = some (some (.builtin "object.__setattr__"))) (ga_InvalidArray : PySem.W.findIn K (.ref C_InvalidArray) "__getattribute__" = some (some (.builtin "BaseException.__getattribute__"))) (gg_InvalidArray : PySem.W.findIn K (.ref C_InvalidArray) "__getattr__" = some none) (nv_InvalidArray : PySem.W.findIn K (.ref C_InvalidArray) "value" = some none)
    (iC_InvalidArray : PySem.W.findIn K (.ref C_InvalidArray) "__init__" = some (some (.ref fI_InvalidArray))) (tC_InvalidArray : PySem.W.typeIn K (.ref fI_InvalidArray) = some (.type "function"))
    (l1_InvalidArray : K.lookup fI_InvalidArray = some ⟨oc_InvalidArray, od_InvalidArray, .func (PySem.W.ksFn "__init__" "StrideError.__init__" (PXE.xA p1_InvalidArray p2_InvalidArray) (PXE.xB ln_InvalidArray q1_InvalidArray q2_InvalidArray q3_InvalidArray q4_InvalidArray) PXE.xS .none .none doc_InvalidArray pm_InvalidArray an_InvalidArray (.ref cda_InvalidArray) ct_InvalidArray cc_InvalidArray), osl_InvalidArray⟩) (c1_InvalidArray : PySem.W.codeIn K (.ref cda_InvalidArray) "StrideError.__init__" = true)
    (lc_InvalidArray : K.lookup cda_InvalidArray = some ⟨ccl_InvalidArray, cdd_InvalidArray, .fields vs_InvalidArray, ccs_InvalidArray⟩) (hv_InvalidArray : vs_InvalidArray[2]? = some (.str file_InvalidArray tf_InvalidArray)) (hf_InvalidArray : ((l.prog.main.file : Str) == file_InvalidArray) = true) (lcc_InvalidArray : K.lookup cc_InvalidArray = some ⟨cl_InvalidArray, cld_InvalidArray, .cell (some (.ref D_InvalidArray)), csl_InvalidArray⟩) (hln_InvalidArray : ln_InvalidArray = 5 ∨ ln_InvalidArray = 8)
    (kC_InvalidArray : PySem.W.keepIn K (.ref C_InvalidArray) = true) (eC_InvalidArray : PySem.W.subIn K (.ref C_InvalidArray) (.type "BaseException") = some true) (vC_InvalidArray : PySem.W.subIn K (.ref C_InvalidArray) (.type "ValueError") = some true) (yC_InvalidArray : PySem.W.typeIn K (.ref C_InvalidArray) = some (.type "type")) (hC_InvalidArray : PySem.W.hasDictIn K C_InvalidArray = true) (isC_InvalidArray : PySem.W.isClsIn K C_InvalidArray = true) (sC_InvalidArray : PySem.W.subIn K (.ref C_InvalidArray) (.ref C_InvalidArray) = some true)
    (ny_InvalidArray : PySem.W.nsIn K cStatics "thirdparty.any" = some none) (mD_InvalidArray : PySem.W.mroIn K C_InvalidArray (.ref D_InvalidArray) = some true) (isD_InvalidArray : PySem.W.isClsIn K D_InvalidArray = true) (zs_InvalidArray : PySem.W.nsIn K mainGlobals "super" = some none) (tp_InvalidArray : (l.prog.main.scope.names.lookup ("super" : Str)).isSome = false)
    {C_InvalidNumber D_InvalidNumber fI_InvalidNumber cda_InvalidNumber cc_InvalidNumber N_InvalidNumber : Addr} {n_InvalidNumber q_InvalidNumber file_InvalidNumber : Str} {bs_InvalidNumber : List Value} {sn_InvalidNumber : List Str} {sub_InvalidNumber : List Value} {ab_InvalidNumber : Bool} {col_InvalidNumber : Option Bool} {dd_InvalidNumber od_InvalidNumber an_InvalidNumber cdd_InvalidNumber cld_InvalidNumber : Option Addr} {k0_InvalidNumber k1_InvalidNumber k2_InvalidNumber k3_InvalidNumber k5_InvalidNumber : Option Value} {oc_InvalidNumber doc_InvalidNumber pm_InvalidNumber ct_InvalidNumber ccl_InvalidNumber cl_InvalidNumber : Value} {osl_InvalidNumber ccs_InvalidNumber csl_InvalidNumber : Array (Option Value)} {ln_InvalidNumber : Nat} {p1_InvalidNumber p2_InvalidNumber q1_InvalidNumber q2_InvalidNumber q3_InvalidNumber q4_InvalidNumber : Pos} {vs_InvalidNumber : Array Value} {tf_InvalidNumber : Tok}
    (aC_InvalidNumber : PySem.W.nsIn K mainGlobals "InvalidNumber" = some (some (.ref C_InvalidNumber)))
    (xC_InvalidNumber : K.lookup C_InvalidNumber = some (excClassObj n_InvalidNumber q_InvalidNumber C_InvalidNumber N_InvalidNumber bs_InvalidNumber (.ref D_InvalidNumber :: PXE.veBm) true sn_InvalidNumber sub_InvalidNumber ab_InvalidNumber col_InvalidNumber dd_InvalidNumber k0_InvalidNumber k1_InvalidNumber k2_InvalidNumber k3_InvalidNumber k5_InvalidNumber "ValueError.__new__")) (ne_InvalidNumber : (Value.ref C_InvalidNumber != Value.ref D_InvalidNumber) = true)
    (sa_InvalidNumber : PySem.W.findIn K (.ref C_InvalidNumber) "__setattr__" = some (some (.builtin "object.__setattr__"))) (ga_InvalidNumber : PySem.W.findIn K (.ref C_InvalidNumber) "__getattribute__" = some (some (.builtin "BaseException.__getattribute__"))) (gg_InvalidNumber : PySem.W.findIn K (.ref C_InvalidNumber) "__getattr__" = some none) (nv_InvalidNumber : PySem.W.findIn K (.ref C_InvalidNumber) "value" = some none)
    (iC_InvalidNumber : PySem.W.findIn K (.ref C_InvalidNumber) "__init__" = some (some (.ref fI_InvalidNumber))) (tC_InvalidNumber : PySem.W.typeIn K (.ref fI_InvalidNumber) = some (.type "function"))
    (l1_InvalidNumber : K.lookup fI_InvalidNumber = some ⟨oc_InvalidNumber, od_InvalidNumber, .func (PySem.W.ksFn "__init__" "StrideError.__init__" (PXE.xA p1_InvalidNumber p2_InvalidNumber) (PXE.xB ln_InvalidNumber q1_InvalidNumber q2_InvalidNumber q3_InvalidNumber q4_InvalidNumber) PXE.xS .none .none doc_InvalidNumber pm_InvalidNumber an_InvalidNumber (.ref cda_InvalidNumber) ct_InvalidNumber cc_InvalidNumber), osl_InvalidNumber⟩) (c1_InvalidNumber : PySem.W.codeIn K (.ref cda_InvalidNumber) "StrideError.__init__" = true)
    (lc_InvalidNumber : K.lookup cda_InvalidNumber = some ⟨ccl_InvalidNumber, cdd_InvalidNumber, .fields vs_InvalidNumber, ccs_InvalidNumber⟩) (hv_InvalidNumber : vs_InvalidNumber[2]? = some (.str file_InvalidNumber tf_InvalidNumber)) (hf_InvalidNumber : ((l.prog.main.file : Str) == file_InvalidNumber) = true) (lcc_InvalidNumber : K.lookup cc_InvalidNumber = some ⟨cl_InvalidNumber, cld_InvalidNumber, .cell (some (.ref D_InvalidNumber)), csl_InvalidNumber⟩) (hln_InvalidNumber : ln_InvalidNumber = 5 ∨ ln_InvalidNumber = 8)
    (kC_InvalidNumber : PySem.W.keepIn K (.ref C_InvalidNumber) = true) (eC_InvalidNumber : PySem.W.subIn K (.ref C_InvalidNumber) (.type "BaseException") = some true) (vC_InvalidNumber : PySem.W.subIn K (.ref C_InvalidNumber) (.type "ValueError") = some true) (yC_InvalidNumber : PySem.W.typeIn K (.ref C_InvalidNumber) = some (.type "type")) (hC_InvalidNumber : PySem.W.hasDictIn K C_InvalidNumber = true) (isC_InvalidNumber : PySem.W.isClsIn K C_InvalidNumber = true) (sC_InvalidNumber : PySem.W.subIn K (.ref C_InvalidNumber) (.ref C_InvalidNumber) = some true)
    (ny_InvalidNumber : PySem.W.nsIn K cStatics "thirdparty.any" = some none) (mD_InvalidNumber : PySem.W.mroIn K C_InvalidNumber (.ref D_InvalidNumber) = some true) (isD_InvalidNumber : PySem.W.isClsIn K D_InvalidNumber = true) (zs_InvalidNumber : PySem.W.nsIn K mainGlobals "super" = some none) (tp_InvalidNumber : (l.prog.main.scope.names.lookup ("super" : Str)).isSome = false)
    {C_InvalidGuard : Addr} (aC_InvalidGuard : PySem.W.nsIn K mainGlobals "InvalidGuard" = some (some (.ref C_InvalidGuard)))
    {C_InvalidAccess : Addr} (aC_InvalidAccess : PySem.W.nsIn K mainGlobals "InvalidAccess" = some (some (.ref C_InvalidAccess)))
    {C_NotPlain : Addr} (aC_NotPlain : PySem.W.nsIn K mainGlobals "NotPlain" = some (some (.ref C_NotPlain)))
    {C_InvalidSchedule : Addr} (aC_InvalidSchedule : PySem.W.nsIn K mainGlobals "InvalidSchedule" = some (some (.ref C_InvalidSchedule)))
    {C_Racing : Addr} (aC_Racing : PySem.W.nsIn K mainGlobals "Racing" = some (some (.ref C_Racing)))
    {C_UnlikeLanes : Addr} (aC_UnlikeLanes : PySem.W.nsIn K mainGlobals "UnlikeLanes" = some (some (.ref C_UnlikeLanes)))
    {C_Unreadable : Addr} (aC_Unreadable : PySem.W.nsIn K mainGlobals "Unreadable" = some (some (.ref C_Unreadable)))
    {C_NothingToUndo : Addr} (aC_NothingToUndo : PySem.W.nsIn K mainGlobals "NothingToUndo" = some (some (.ref C_NothingToUndo)))
    {C_StrideError : Addr} (aC_StrideError : PySem.W.nsIn K mainGlobals "StrideError" = some (some (.ref C_StrideError)))
    (xkb : PL.errKB K (PXE.clOf K) = true) :
    ∃ fd : FuncData, (∀ (s : Shared) (v : Value), BindsTo s fd ⟨[v], []⟩ [("script", v)]) ∧ ∀ base : Heap, K.In base → base.Ns mainGlobals mg → FnP l.prog w K mg base (PL.clT [] (PXE.clOf K)) 21 fa fd ["script"] m_law := by
  have e := hfa.symm.trans (PySem.W.mg_of X G a30)
  cases e
  exact ⟨(txt_of (prog := l.prog) (w := w) X G aC_Kernel a0 l0 c0 k0 a1 l1 c1 k1 a2 l2 c2 k2 a3 l3 c3 k3 a4 l4 c4 k4 m4 o4 a5 l5 c5 k5 a6 l6 c6 k6 a7 l7 c7 k7 a8 l8 c8 k8 a9 l9 c9 k9 a10 l10 c10 k10 a11 l11 c11 k11 a12 l12 c12 k12 a13 l13 c13 k13 a14 l14 c14 k14 a15 l15 c15 k15 a16 l16 c16 k16 a17 l17 c17 k17 a18 l18 c18 k18 a19 l19 c19 k19 a20 l20 c20 k20 a21 l21 c21 k21 a22 l22 c22 k22 a23 l23 c23 k23 a24 l24 c24 k24 a25 l25 c25 k25 a26 l26 c26 k26 a27 l27 c27 k27 a28 l28 c28 k28 a29 l29 c29 k29 a30 l30 c30 k30 z_ValueError z_abs z_all z_any z_enumerate z_isinstance z_len z_max z_min z_range z_tuple n_MOST_LETTERS n_LETTERS n_READ n_WRITE pg_Kernel hd_Kernel po_Kernel sa_Kernel mi_Kernel kc_Kernel fi_Kernel na_Kernel_lane_count na_Kernel_kept_statements na_Kernel_kept_barriers aD_ITEMS lD_ITEMS tD_ITEMS wD_ITEMS kD_ITEMS_0 kD_ITEMS_1 kD_ITEMS_2 aD_PLACES lD_PLACES tD_PLACES wD_PLACES kD_PLACES_0 uD_PLACES_0 sD_PLACES_0 vD_PLACES_0 kD_PLACES_1 uD_PLACES_1 sD_PLACES_1 vD_PLACES_1 kD_PLACES_2 uD_PLACES_2 sD_PLACES_2 vD_PLACES_2 aC_InvalidBarrier xC_InvalidBarrier ne_InvalidBarrier sa_InvalidBarrier ga_InvalidBarrier gg_InvalidBarrier nv_InvalidBarrier iC_InvalidBarrier tC_InvalidBarrier l1_InvalidBarrier c1_InvalidBarrier lc_InvalidBarrier hv_InvalidBarrier hf_InvalidBarrier lcc_InvalidBarrier hln_InvalidBarrier kC_InvalidBarrier eC_InvalidBarrier vC_InvalidBarrier yC_InvalidBarrier hC_InvalidBarrier isC_InvalidBarrier sC_InvalidBarrier ny_InvalidBarrier mD_InvalidBarrier isD_InvalidBarrier zs_InvalidBarrier tp_InvalidBarrier aC_InvalidLanes xC_InvalidLanes ne_InvalidLanes sa_InvalidLanes ga_InvalidLanes gg_InvalidLanes nv_InvalidLanes iC_InvalidLanes tC_InvalidLanes l1_InvalidLanes c1_InvalidLanes lc_InvalidLanes hv_InvalidLanes hf_InvalidLanes lcc_InvalidLanes hln_InvalidLanes kC_InvalidLanes eC_InvalidLanes vC_InvalidLanes yC_InvalidLanes hC_InvalidLanes isC_InvalidLanes sC_InvalidLanes ny_InvalidLanes mD_InvalidLanes isD_InvalidLanes zs_InvalidLanes tp_InvalidLanes aC_InvalidStatement xC_InvalidStatement ne_InvalidStatement sa_InvalidStatement ga_InvalidStatement gg_InvalidStatement nv_InvalidStatement iC_InvalidStatement tC_InvalidStatement l1_InvalidStatement c1_InvalidStatement lc_InvalidStatement hv_InvalidStatement hf_InvalidStatement lcc_InvalidStatement hln_InvalidStatement kC_InvalidStatement eC_InvalidStatement vC_InvalidStatement yC_InvalidStatement hC_InvalidStatement isC_InvalidStatement sC_InvalidStatement ny_InvalidStatement mD_InvalidStatement isD_InvalidStatement zs_InvalidStatement tp_InvalidStatement aC_InvalidArray xC_InvalidArray ne_InvalidArray sa_InvalidArray ga_InvalidArray gg_InvalidArray nv_InvalidArray iC_InvalidArray tC_InvalidArray l1_InvalidArray c1_InvalidArray lc_InvalidArray hv_InvalidArray hf_InvalidArray lcc_InvalidArray hln_InvalidArray kC_InvalidArray eC_InvalidArray vC_InvalidArray yC_InvalidArray hC_InvalidArray isC_InvalidArray sC_InvalidArray ny_InvalidArray mD_InvalidArray isD_InvalidArray zs_InvalidArray tp_InvalidArray aC_InvalidNumber xC_InvalidNumber ne_InvalidNumber sa_InvalidNumber ga_InvalidNumber gg_InvalidNumber nv_InvalidNumber iC_InvalidNumber tC_InvalidNumber l1_InvalidNumber c1_InvalidNumber lc_InvalidNumber hv_InvalidNumber hf_InvalidNumber lcc_InvalidNumber hln_InvalidNumber kC_InvalidNumber eC_InvalidNumber vC_InvalidNumber yC_InvalidNumber hC_InvalidNumber isC_InvalidNumber sC_InvalidNumber ny_InvalidNumber mD_InvalidNumber isD_InvalidNumber zs_InvalidNumber tp_InvalidNumber aC_InvalidGuard aC_InvalidAccess aC_NotPlain aC_InvalidSchedule aC_Racing aC_UnlikeLanes aC_Unreadable aC_NothingToUndo aC_StrideError xkb).fd_law, fun s v => .of_eq rfl, fun base _ _ => ok_law (w := w) (txt_of (prog := l.prog) (w := w) X G aC_Kernel a0 l0 c0 k0 a1 l1 c1 k1 a2 l2 c2 k2 a3 l3 c3 k3 a4 l4 c4 k4 m4 o4 a5 l5 c5 k5 a6 l6 c6 k6 a7 l7 c7 k7 a8 l8 c8 k8 a9 l9 c9 k9 a10 l10 c10 k10 a11 l11 c11 k11 a12 l12 c12 k12 a13 l13 c13 k13 a14 l14 c14 k14 a15 l15 c15 k15 a16 l16 c16 k16 a17 l17 c17 k17 a18 l18 c18 k18 a19 l19 c19 k19 a20 l20 c20 k20 a21 l21 c21 k21 a22 l22 c22 k22 a23 l23 c23 k23 a24 l24 c24 k24 a25 l25 c25 k25 a26 l26 c26 k26 a27 l27 c27 k27 a28 l28 c28 k28 a29 l29 c29 k29 a30 l30 c30 k30 z_ValueError z_abs z_all z_any z_enumerate z_isinstance z_len z_max z_min z_range z_tuple n_MOST_LETTERS n_LETTERS n_READ n_WRITE pg_Kernel hd_Kernel po_Kernel sa_Kernel mi_Kernel kc_Kernel fi_Kernel na_Kernel_lane_count na_Kernel_kept_statements na_Kernel_kept_barriers aD_ITEMS lD_ITEMS tD_ITEMS wD_ITEMS kD_ITEMS_0 kD_ITEMS_1 kD_ITEMS_2 aD_PLACES lD_PLACES tD_PLACES wD_PLACES kD_PLACES_0 uD_PLACES_0 sD_PLACES_0 vD_PLACES_0 kD_PLACES_1 uD_PLACES_1 sD_PLACES_1 vD_PLACES_1 kD_PLACES_2 uD_PLACES_2 sD_PLACES_2 vD_PLACES_2 aC_InvalidBarrier xC_InvalidBarrier ne_InvalidBarrier sa_InvalidBarrier ga_InvalidBarrier gg_InvalidBarrier nv_InvalidBarrier iC_InvalidBarrier tC_InvalidBarrier l1_InvalidBarrier c1_InvalidBarrier lc_InvalidBarrier hv_InvalidBarrier hf_InvalidBarrier lcc_InvalidBarrier hln_InvalidBarrier kC_InvalidBarrier eC_InvalidBarrier vC_InvalidBarrier yC_InvalidBarrier hC_InvalidBarrier isC_InvalidBarrier sC_InvalidBarrier ny_InvalidBarrier mD_InvalidBarrier isD_InvalidBarrier zs_InvalidBarrier tp_InvalidBarrier aC_InvalidLanes xC_InvalidLanes ne_InvalidLanes sa_InvalidLanes ga_InvalidLanes gg_InvalidLanes nv_InvalidLanes iC_InvalidLanes tC_InvalidLanes l1_InvalidLanes c1_InvalidLanes lc_InvalidLanes hv_InvalidLanes hf_InvalidLanes lcc_InvalidLanes hln_InvalidLanes kC_InvalidLanes eC_InvalidLanes vC_InvalidLanes yC_InvalidLanes hC_InvalidLanes isC_InvalidLanes sC_InvalidLanes ny_InvalidLanes mD_InvalidLanes isD_InvalidLanes zs_InvalidLanes tp_InvalidLanes aC_InvalidStatement xC_InvalidStatement ne_InvalidStatement sa_InvalidStatement ga_InvalidStatement gg_InvalidStatement nv_InvalidStatement iC_InvalidStatement tC_InvalidStatement l1_InvalidStatement c1_InvalidStatement lc_InvalidStatement hv_InvalidStatement hf_InvalidStatement lcc_InvalidStatement hln_InvalidStatement kC_InvalidStatement eC_InvalidStatement vC_InvalidStatement yC_InvalidStatement hC_InvalidStatement isC_InvalidStatement sC_InvalidStatement ny_InvalidStatement mD_InvalidStatement isD_InvalidStatement zs_InvalidStatement tp_InvalidStatement aC_InvalidArray xC_InvalidArray ne_InvalidArray sa_InvalidArray ga_InvalidArray gg_InvalidArray nv_InvalidArray iC_InvalidArray tC_InvalidArray l1_InvalidArray c1_InvalidArray lc_InvalidArray hv_InvalidArray hf_InvalidArray lcc_InvalidArray hln_InvalidArray kC_InvalidArray eC_InvalidArray vC_InvalidArray yC_InvalidArray hC_InvalidArray isC_InvalidArray sC_InvalidArray ny_InvalidArray mD_InvalidArray isD_InvalidArray zs_InvalidArray tp_InvalidArray aC_InvalidNumber xC_InvalidNumber ne_InvalidNumber sa_InvalidNumber ga_InvalidNumber gg_InvalidNumber nv_InvalidNumber iC_InvalidNumber tC_InvalidNumber l1_InvalidNumber c1_InvalidNumber lc_InvalidNumber hv_InvalidNumber hf_InvalidNumber lcc_InvalidNumber hln_InvalidNumber kC_InvalidNumber eC_InvalidNumber vC_InvalidNumber yC_InvalidNumber hC_InvalidNumber isC_InvalidNumber sC_InvalidNumber ny_InvalidNumber mD_InvalidNumber isD_InvalidNumber zs_InvalidNumber tp_InvalidNumber aC_InvalidGuard aC_InvalidAccess aC_NotPlain aC_InvalidSchedule aC_Racing aC_UnlikeLanes aC_Unreadable aC_NothingToUndo aC_StrideError xkb)⟩
end K20
/-! K20_K: the name of the class of an error, and its value. -/
namespace K20
open PySem PySem.Spec PyProof.Rows L2 PL PN PM
/-- the classes in the sequence in which they are asked -/
def kinds : List Str := ["InvalidGuard", "InvalidLanes", "InvalidStatement", "InvalidBarrier", "InvalidAccess", "InvalidNumber", "InvalidArray", "NotPlain", "InvalidSchedule", "Racing", "UnlikeLanes", "Unreadable", "NothingToUndo"]
theorem kinds_err : ∀ c ∈ kinds, c ∈ errNames := by decide +kernel
theorem kinds_one : ∀ c ∈ kinds, kinds.filter (exSub c) = [c] := by decide +kernel
theorem kinds_str : ∀ c ∈ kinds, exSub c "StrideError" = true ∧ exSub c "ValueError" = true := by decide +kernel
abbrev kp (c t : Str) : PV := .tup [.str t, .bl (exSub c t)]
section
variable {c : Str} {v : PV}
theorem isx1 {t : Str} {s : Stt} (hc : c ∈ kinds) (h : s.ro[0]? = some (some (.val (.exi c v)))) : eIsX [t] (eVar 0) s = .ok (.bl (exSub c t)) s := by
  have e : eVar 0 s = .ok (.exi c v) s := by
    unfold eVar
    rw [h] <;> rfl
  unfold eIsX
  rw [e]
  simp only [Res.bind, List.any_cons, List.any_nil, Bool.or_false]
  rw [if_pos (kinds_err c hc)]
theorem isx {t : Str} {s : Stt} (hc : c ∈ kinds) (h : s.ro[0]? = some (some (.val (.exi c v)))) : eTup (aCons (eC (.str t)) (aCons (eIsX [t] (eVar 0)) aNil)) s = .ok (kp c t) s :=
  tup_at (acons_at rfl (acons_at (isx1 hc h) rfl)) (by show (2 : Nat) ≤ 16777216; decide)
abbrev SK (c : Str) (v : PV) (l : List PV) (f n o : Option SV) : Stt := ⟨[some (.val (.exi c v)), some (.val (.lst l)), f, n, o], []⟩
theorem k_add1 {t : Str} {l : List PV} (hc : c ∈ kinds) (hl : l.length ≤ 100) : gAsg (eBin pAdd (eVar 1) (frz (oLst (aCons (eTup (aCons (eC (.str t)) (aCons (eIsX [t] (eVar 0)) aNil))) aNil)))) (aName 1) (SK c v l none none none) = .nx (SK c v (l ++ [kp c t]) none none none) :=
  asg_at (bin_at rfl (PM.lst_at (acons_at (isx (v := v) hc rfl) rfl) (by show (1 : Nat) ≤ 16777216; decide)) (add_lst (by show l.length + 1 ≤ 16777216; omega))) rfl
theorem k_add2 {t u : Str} {l : List PV} (hc : c ∈ kinds) (hl : l.length ≤ 100) : gAsg (eBin pAdd (eVar 1) (frz (oLst (aCons (eTup (aCons (eC (.str t)) (aCons (eIsX [t] (eVar 0)) aNil))) (aCons (eTup (aCons (eC (.str u)) (aCons (eIsX [u] (eVar 0)) aNil))) aNil))))) (aName 1) (SK c v l none none none) = .nx (SK c v (l ++ [kp c t, kp c u]) none none none) :=
  asg_at (bin_at rfl (PM.lst_at (acons_at (isx (v := v) hc rfl) (acons_at (isx (v := v) hc rfl) rfl)) (by show (2 : Nat) ≤ 16777216; decide)) (add_lst (by show l.length + 2 ≤ 16777216; omega))) rfl
theorem k_first (hc : c ∈ kinds) : gAsg (frz (oLst (aCons (eTup (aCons (eC (.str "InvalidGuard")) (aCons (eIsX ["InvalidGuard"] (eVar 0)) aNil))) (aCons (eTup (aCons (eC (.str "InvalidLanes")) (aCons (eIsX ["InvalidLanes"] (eVar 0)) aNil))) aNil)))) (aName 1) ⟨[some (.val (.exi c v)), none, none, none, none], []⟩ =
    .nx (SK c v [kp c "InvalidGuard", kp c "InvalidLanes"] none none none) :=
  asg_at (PM.lst_at (acons_at (isx (v := v) hc rfl) (acons_at (isx (v := v) hc rfl) rfl)) (by show (2 : Nat) ≤ 16777216; decide)) rfl
theorem k_comp (hc : c ∈ kinds) : gAsg (frz (oComp [3, 4] (iSeq (eVar 1)) (aTup 2 (asCons (aName 3) (asCons (aName 4) asNil))) (tTru (eVar 4)) (eVar 3))) (aName 2) (SK c v (kinds.map (kp c)) none none none) = .nx (SK c v (kinds.map (kp c)) (some (.val (.lst [.str c]))) none none) := by
  have k := compL_F (vs := [3, 4]) (a := aTup 2 (asCons (aName 3) (asCons (aName 4) asNil))) (ft := tTru (eVar 4)) (fe := eVar 3) (s := SK c v (kinds.map (kp c)) none none none) (kp c) PV.str (exSub c) kinds [] (by decide) (fun t _ => by
    refine ⟨SK c v (kinds.map (kp c)) none (some (.val (.str t))) (some (.val (.bl (exSub c t)))), SK c v (kinds.map (kp c)) none (some (.val (.str t))) (some (.val (.bl (exSub c t)))), rfl, rfl, fun _ => rfl, fun _ => ⟨SK c v (kinds.map (kp c)) none (some (.val (.str t))) (some (.val (.bl (exSub c t)))), rfl, rfl⟩⟩)
  rw [kinds_one c hc] at k
  exact asg_at (comp_at (l := kinds.map (kp c)) rfl k rfl) rfl
theorem e_kind (hc : c ∈ kinds) (v : PV) : m__law_kind_of [.val (.exi c v)] [] = .ok (.tup [.str c, v]) [] := by
  obtain ⟨t1, t2⟩ := kinds_str c hc
  have i1 : eIsX ["StrideError"] (eVar 0) (SK c v (kinds.map (kp c)) (some (.val (.lst [.str c]))) none none) = .ok (.bl true) (SK c v (kinds.map (kp c)) (some (.val (.lst [.str c]))) none none) := by
    have q := isx1 (t := "StrideError") (v := v) (s := SK c v (kinds.map (kp c)) (some (.val (.lst [.str c]))) none none) hc rfl
    rw [t1] at q
    exact q
  have i2 : eIsX ["ValueError"] (eVar 0) (SK c v (kinds.map (kp c)) (some (.val (.lst [.str c]))) none none) = .ok (.bl true) (SK c v (kinds.map (kp c)) (some (.val (.lst [.str c]))) none none) := by
    have q := isx1 (t := "ValueError") (v := v) (s := SK c v (kinds.map (kp c)) (some (.val (.lst [.str c]))) none none) hc rfl
    rw [t2] at q
    exact q
  have tz : ∀ {fe : Stt → Res PV} {s : Stt}, fe s = .ok (.bl true) s → tNt (tTru fe) s = .ok false s := fun {fe s} h => by
    simp only [tNt, tTru, h, Res.bind_ok]
    rfl
  have body : g__law_kind_of ⟨[some (.val (.exi c v)), none, none, none, none], []⟩ = .rt (.tup [.str c, v]) (SK c v (kinds.map (kp c)) (some (.val (.lst [.str c]))) none none) := by
    unfold g__law_kind_of
    refine (seq_nx (k_first hc)).trans ?_
    refine (seq_nx (k_add1 hc (by simp))).trans ?_
    refine (seq_nx (k_add1 hc (by simp))).trans ?_
    refine (seq_nx (k_add1 hc (by simp))).trans ?_
    refine (seq_nx (k_add1 hc (by simp))).trans ?_
    refine (seq_nx (k_add2 hc (by simp))).trans ?_
    refine (seq_nx (k_add2 hc (by simp))).trans ?_
    refine (seq_nx (k_add2 hc (by simp))).trans ?_
    refine (seq_nx (k_add1 hc (by simp))).trans ?_
    refine (seq_nx (k_comp hc)).trans ?_
    refine (seq_nx (if_no (orr_no (ne_no (p := .int 1) (q := .int 1) (callB1_at (p := .lst [.str c]) rfl rfl) rfl rfl) (orr_no (tz i1) (tz i2))))).trans ?_
    refine seq_rt (ret_at (tup_at (acons_at (bin_at (p := .lst [.str c]) (q := .int 0) rfl rfl (at0 _ _)) (acons_at ?_ rfl)) (by show (2 : Nat) ≤ 16777216; decide)))
    show eXv (eVar 0) _ = _
    unfold eXv
    show (if c ∈ errNames then _ else _) = _
    rw [if_pos (kinds_err c hc)]
  exact congrArg endF body
end
end K20
/-! K20_L: what the law draws. -/
namespace K20
open PySem PySem.Spec PyProof.Rows L2 PL PN PM
local macro_rules | `(tactic| walk_at "ev") => `(tactic| try simp only [mOf, endF, start0, gSeq, gNop, gAsg, gRet, gRetO, gAsgO, gDrop, gIf, gOpt, gPar, gPar3, gAug, aName, asNil, asCons, aTup, aLst, setV, setO, eVar, eC, eBin, eUn, eTup, aNil, aCons, oLst, frz, eCall, oCall, avN, avK, permL, lNil, lPv, lSl, tOf, tTru, tNt, tAn, tOrr, eIf, eAn, eOr, eNt, eChain, eCallB, eIxM, gSetIx, getM, pTru, pAdd, pSub, pMul, pFdiv, pMod, pPow, pNeg, pLt, pLe, pGt, pGe, pIs, pIsNot, pAddI, pIx, pLen, pAbs, pMax2, pMin2, Res.bind_ok, Res.bind_ex, Res.bind_stuck, Res.fl_ok, Res.fl_ex, Res.fl_stuck, Res.opt_some, Res.opt_none, lowerA, PL.keyOf, getK, getAll, setAll, setK, distinct, List.map_cons, List.map_nil, List.length_cons, List.length_nil, List.replicate, List.cons_append, List.nil_append, List.append_nil, List.getElem?_cons_zero, List.getElem?_cons_succ, List.getElem?_nil, List.set_cons_zero, List.set_cons_succ, List.filterMap_cons, List.filterMap_nil, Option.bind_some, Option.map_some, Option.elim_some, if_true, if_false, Nat.reduceAdd, Nat.reduceSub, Nat.reduceEqDiff, Nat.reduceLeDiff, ↓reduceIte, Bool.false_eq_true, at0, at1, at2, at3, pEq, pNe, eqB_int, Option.some.injEq, decide_true, decide_false, not_true_eq_false, not_false_eq_true, Bool.and_true, ne_eq, reduceCtorEq, Bool.true_eq_false, Bool.not_true, Bool.not_false, frz, noEx, wipeS, wipeR, backS, backR, keepV, oComp, gFor, iAny, iRange1, iRange2, iRange3, iRangeW1, iRangeW2, eCallQ, oRgW2, oRgW, pInt1, iEnumQ, eDct, iTxt, eFld, eMake, gSetFld, eFldM, eTupV, putP, eLenSet, gFrz, Nat.reduceLT, oRg2, oRg1, oRg, tYesD, pIn, pNotIn, eSl, pNo, pSo, forL_nil, gApp, gParO, List.not_mem_nil, List.not_mem_nil])
local macro_rules | `(tactic| walk_at "evs") => `(tactic| simp only [*, mOf, endF, start0, gSeq, gNop, gAsg, gRet, gRetO, gAsgO, gDrop, gIf, gOpt, gPar, gPar3, gAug, aName, asNil, asCons, aTup, aLst, setV, setO, eVar, eC, eBin, eUn, eTup, aNil, aCons, oLst, frz, eCall, oCall, avN, avK, permL, lNil, lPv, lSl, tOf, tTru, tNt, tAn, tOrr, eIf, eAn, eOr, eNt, eChain, eCallB, eIxM, gSetIx, getM, pTru, pAdd, pSub, pMul, pFdiv, pMod, pPow, pNeg, pLt, pLe, pGt, pGe, pIs, pIsNot, pAddI, pIx, pLen, pAbs, pMax2, pMin2, Res.bind_ok, Res.bind_ex, Res.bind_stuck, Res.fl_ok, Res.fl_ex, Res.fl_stuck, Res.opt_some, Res.opt_none, lowerA, PL.keyOf, getK, getAll, setAll, setK, distinct, List.map_cons, List.map_nil, List.length_cons, List.length_nil, List.replicate, List.cons_append, List.nil_append, List.append_nil, List.getElem?_cons_zero, List.getElem?_cons_succ, List.getElem?_nil, List.set_cons_zero, List.set_cons_succ, List.filterMap_cons, List.filterMap_nil, Option.bind_some, Option.map_some, Option.elim_some, if_true, if_false, Nat.reduceAdd, Nat.reduceSub, Nat.reduceEqDiff, Nat.reduceLeDiff, ↓reduceIte, Bool.false_eq_true, at0, at1, at2, at3, pEq, pNe, eqB_int, Option.some.injEq, decide_true, decide_false, not_true_eq_false, not_false_eq_true, Bool.and_true, ne_eq, reduceCtorEq, Bool.true_eq_false, Bool.not_true, Bool.not_false, frz, noEx, wipeS, wipeR, backS, backR, keepV, oComp, gFor, iAny, iRange1, iRange2, iRange3, iRangeW1, iRangeW2, eCallQ, oRgW2, oRgW, pInt1, iEnumQ, eDct, iTxt, eFld, eMake, gSetFld, eFldM, eTupV, putP, eLenSet, gFrz, Nat.reduceLT, oRg2, oRg1, oRg, tYesD, pIn, pNotIn, eSl, pNo, pSo, forL_nil, gApp, gParO, List.not_mem_nil, List.not_mem_nil, eq_self, not_true_eq_false, not_false_eq_true, ix30, ix31, ix32, Bool.and_self, and_self, and_true, true_and])
noncomputable def q__law_guard_1 : Stt → Fl := (gIf (tOf (eBin pEq (eCall PM.m__law_draw (avN 2 (lSl 0 (lPv (eC (.int 3)) lNil)))) (eC (.int 0)))) (gSeq (gRet (eTup (aCons (eC (.int 0)) (aCons (eVar 1) (aCons (eC (.int 1)) (aCons (eC (.int 0)) aNil)))))) gNop) gNop)
noncomputable def q__law_guard_2 : Stt → Fl := (gPar 2 3 (aCons (eCall PM.m__law_draw (avN 2 (lSl 0 (lPv (eBin pAdd (eVar 1) (eC (.int 1))) lNil)))) (aCons (eBin pAdd (eC (.int 1)) (eCall PM.m__law_draw (avN 2 (lSl 0 (lPv (eC (.int 5)) lNil))))) aNil)))
noncomputable def q__law_guard_3 : Stt → Fl := (gRet (eTup (aCons (eVar 2) (aCons (eBin pAdd (eVar 2) (eCall PM.m__law_draw (avN 2 (lSl 0 (lPv (eBin pAdd (eBin pSub (eVar 1) (eVar 2)) (eC (.int 1))) lNil))))) (aCons (eVar 3) (aCons (eCall PM.m__law_draw (avN 2 (lSl 0 (lPv (eVar 3) lNil)))) aNil))))))
theorem g__law_guard_eq : g__law_guard = (gSeq q__law_guard_1 (gSeq q__law_guard_2 (gSeq q__law_guard_3 gNop))) := rfl
noncomputable def q__law_cell_1 : Stt → Fl := (gRet (eTup (aCons (eBin pSub (eCall PM.m__law_draw (avN 2 (lSl 0 (lPv (eC (.int 6)) lNil)))) (eC (.int 2))) (aCons (eBin pSub (eCall PM.m__law_draw (avN 2 (lSl 0 (lPv (eC (.int 9)) lNil)))) (eC (.int 3))) aNil))))
theorem g__law_cell_eq : g__law_cell = (gSeq q__law_cell_1 gNop) := rfl
noncomputable def l__law_statement_1c : PV → Stt → Option Stt := (aName 11)
noncomputable def l__law_statement_1d : Stt → Res Bool := tYesD
noncomputable def l__law_statement_1e : Stt → Res PV := (eBin pIx (eVar 2) (eCall PM.m__law_draw (avN 2 (lSl 0 (lPv (eCallB pLen (aCons (eVar 2) aNil)) lNil)))))
noncomputable def q__law_statement_1 : Stt → Fl := (gAsg (eTup (aCons (eCall m__law_cell (avN 1 (lSl 0 lNil))) (aCons (eCall m__law_guard (avN 2 (lSl 0 (lPv (eVar 1) lNil)))) aNil))) (aTup 2 (asCons (aTup 2 (asCons (aName 3) (asCons (aName 4) asNil))) (asCons (aName 5) asNil))))
noncomputable def q__law_statement_2 : Stt → Fl := (gAsg (eBin pIx (eVar 2) (eCall PM.m__law_draw (avN 2 (lSl 0 (lPv (eCallB pLen (aCons (eVar 2) aNil)) lNil))))) (aName 6))
noncomputable def q__law_statement_3 : Stt → Fl := (gAsg (frz (oComp [11] (iRangeW1 (aCons (eC (.int 2)) aNil)) l__law_statement_1c l__law_statement_1d l__law_statement_1e)) (aName 7))
noncomputable def q__law_statement_4 : Stt → Fl := (gPar 8 9 (aCons (eCall m__law_cell (avN 1 (lSl 0 lNil))) (aCons (eCall m__law_cell (avN 1 (lSl 0 lNil))) aNil)))
noncomputable def q__law_statement_5 : Stt → Fl := (gAsg (eCall PM.m__law_draw (avN 2 (lSl 0 (lPv (eC (.int 5)) lNil)))) (aName 10))
noncomputable def q__law_statement_6 : Stt → Fl := (gIf (tOf (eBin pLt (eVar 10) (eC (.int 3)))) (gSeq (gRet (eTup (aCons (eC (.str "put")) (aCons (eVar 5) (aCons (eVar 6) (aCons (eVar 3) (aCons (eVar 4) (aCons (eBin pSub (eCall PM.m__law_draw (avN 2 (lSl 0 (lPv (eC (.int 4)) lNil)))) (eC (.int 1))) (aCons (eBin pSub (eCall PM.m__law_draw (avN 2 (lSl 0 (lPv (eC (.int 6)) lNil)))) (eC (.int 2))) aNil))))))))) gNop) gNop)
noncomputable def q__law_statement_7 : Stt → Fl := (gIf (tOf (eBin pEq (eVar 10) (eC (.int 3)))) (gSeq (gRet (eTup (aCons (eC (.str "move")) (aCons (eVar 5) (aCons (eVar 6) (aCons (eVar 3) (aCons (eVar 4) (aCons (eBin pIx (eVar 7) (eC (.int 0))) (aCons (eBin pIx (eVar 8) (eC (.int 0))) (aCons (eBin pIx (eVar 8) (eC (.int 1))) (aCons (eBin pSub (eCall PM.m__law_draw (avN 2 (lSl 0 (lPv (eC (.int 5)) lNil)))) (eC (.int 2))) aNil))))))))))) gNop) gNop)
noncomputable def q__law_statement_8 : Stt → Fl := (gRet (eTup (aCons (eC (.str "sum")) (aCons (eVar 5) (aCons (eVar 6) (aCons (eVar 3) (aCons (eVar 4) (aCons (eBin pIx (eVar 7) (eC (.int 0))) (aCons (eBin pIx (eVar 8) (eC (.int 0))) (aCons (eBin pIx (eVar 8) (eC (.int 1))) (aCons (eBin pIx (eVar 7) (eC (.int 1))) (aCons (eBin pIx (eVar 9) (eC (.int 0))) (aCons (eBin pIx (eVar 9) (eC (.int 1))) aNil)))))))))))))
theorem g__law_statement_eq : g__law_statement = (gSeq q__law_statement_1 (gSeq q__law_statement_2 (gSeq q__law_statement_3 (gSeq q__law_statement_4 (gSeq q__law_statement_5 (gSeq q__law_statement_6 (gSeq q__law_statement_7 (gSeq q__law_statement_8 gNop)))))))) := rfl
noncomputable def q__law_told_1 : Stt → Fl := (PLH.gTryR 4 m__law_kind_of (gSeq (gIf (tOf (eBin pEq (eVar 0) (eC (.int 0)))) (gSeq (gDrop (eCall PM.m_count_written (avN 2 (lPv (eVar 1) (lPv (eVar 2) lNil))))) gNop) (gSeq (gIf (tOf (eBin pEq (eVar 0) (eC (.int 1)))) (gSeq (gDrop (eCall PM.m_written_below (avN 3 (lPv (eVar 1) (lPv (eVar 2) (lPv (eVar 3) lNil)))))) gNop) (gSeq (gIf (tOf (eBin pEq (eVar 0) (eC (.int 2)))) (gSeq (gDrop (eCall PM.m_is_written (avN 3 (lPv (eVar 1) (lPv (eVar 2) (lPv (eVar 3) lNil)))))) gNop) (gSeq (gDrop (eCall PM.m_nth_written (avN 3 (lPv (eVar 1) (lPv (eVar 2) (lPv (eVar 3) lNil)))))) gNop)) gNop)) gNop)) gNop))
noncomputable def q__law_told_2 : Stt → Fl := (gRet (eC .non))
theorem g__law_told_eq : g__law_told = (gSeq q__law_told_1 (gSeq q__law_told_2 gNop)) := rfl
noncomputable def l_law_1b : PV → Stt → Option Stt := (aName 2)
noncomputable def l_law_2c : PV → Stt → Option Stt := (aName 11)
noncomputable def l_law_2d : Stt → Res Bool := tYesD
noncomputable def l_law_2e : Stt → Res PV := (eCall m__law_statement (avN 3 (lSl 1 (lPv (eVar 3) (lPv (frz (oLst (aCons (eC (.str "x")) (aCons (eVar 5) aNil)))) lNil)))))
noncomputable def l_law_3c : PV → Stt → Option Stt := (aName 12)
noncomputable def l_law_3d : Stt → Res Bool := tYesD
noncomputable def l_law_3e : Stt → Res PV := (eCall m__law_told (avN 4 (lPv (eVar 12) (lPv (eVar 6) (lPv (eVar 8) (lPv (eVar 9) lNil))))))
noncomputable def l_law_1c_s1 : Stt → Fl := (gAsg (eTup (aCons (eBin pAdd (eC (.int 1)) (eCall PM.m__law_draw (avN 2 (lSl 1 (lPv (eC (.int 9)) lNil))))) (aCons (eCall PM.m__law_draw (avN 2 (lSl 1 (lPv (eC (.int 4)) lNil)))) aNil))) (aTup 2 (asCons (aName 3) (asCons (aName 4) asNil))))
noncomputable def l_law_1c_s2 : Stt → Fl := (gAsg (eCall m__law_name (avN 1 (lSl 1 lNil))) (aName 5))
noncomputable def l_law_1c_s3 : Stt → Fl := (gAsg (eMake "Kernel" PM.m_Kernel___init__ 4 [.tup []] (aCons (eVar 3) (aCons (frz (oComp [11] (iRangeW1 (aCons (eVar 4) aNil)) l_law_2c l_law_2d l_law_2e)) aNil))) (aName 6))
noncomputable def l_law_1c_s4 : Stt → Fl := (gAsg (frz (oLst (aCons (eC (.str "x")) (aCons (eVar 5) (aCons (eCall m__law_name (avN 1 (lSl 1 lNil))) (aCons (eC (.str "longname")) (aCons (eC (.str "")) (aCons (eC (.str "X")) (aCons (eC (.str "x1")) (aCons (eC (.str "abcdefghi")) (aCons (eC (.str "x y")) (aCons (eC (.str "a-b")) aNil)))))))))))) (aName 7))
noncomputable def l_law_1c_s5 : Stt → Fl := (gAsg (eBin pIx (eVar 7) (eCall PM.m__law_draw (avN 2 (lSl 1 (lPv (eC (.int 10)) lNil))))) (aName 8))
noncomputable def l_law_1c_s6 : Stt → Fl := (gAsg (eBin pIx (frz (oLst (aCons (eCall PM.m__law_draw (avN 2 (lSl 1 (lPv (eC (.int 12)) lNil)))) (aCons (eUn pNeg (eC (.int 1))) (aCons (eBin pPow (eC (.int 10)) (eC (.int 30))) (aCons (eBin pSub (eC (.int 0)) (eBin pPow (eC (.int 10)) (eC (.int 30)))) aNil)))))) (eCall PM.m__law_draw (avN 2 (lSl 1 (lPv (eC (.int 4)) lNil))))) (aName 9))
noncomputable def l_law_1c_s7 : Stt → Fl := (gAsg (eIf (tTru (eCall m__law_is_name (avN 1 (lPv (eVar 8) lNil)))) (eC .non) (eTup (aCons (eC (.str "InvalidArray")) (aCons (eVar 8) aNil)))) (aName 10))
noncomputable def l_law_1c_s8 : Stt → Fl := (gIf (tOf (eBin pNe (frz (oComp [12] (iRangeW1 (aCons (eC (.int 3)) aNil)) l_law_3c l_law_3d l_law_3e)) (eBin pMul (frz (oLst (aCons (eVar 10) aNil))) (eC (.int 3))))) (gSeq (gRet (eC (.bl false))) gNop) gNop)
noncomputable def l_law_1c_s9 : Stt → Fl := (gIf (tAn (tOf (eBin pIs (eVar 10) (eC .non))) (tNt (tOf (eChain pLe pLt (eC (.int 0)) (eVar 9) (eCall PM.m_count_written (avN 2 (lPv (eVar 6) (lPv (eVar 8) lNil)))))))) (gSeq (gAsg (eTup (aCons (eC (.str "InvalidNumber")) (aCons (eVar 9) aNil))) (aName 10)) gNop) gNop)
noncomputable def l_law_1c_s10 : Stt → Fl := (gIf (tOf (eBin pNe (eCall m__law_told (avN 4 (lPv (eC (.int 3)) (lPv (eVar 6) (lPv (eVar 8) (lPv (eVar 9) lNil)))))) (eVar 10))) (gSeq (gRet (eC (.bl false))) gNop) gNop)
noncomputable def l_law_1c : Stt → Fl := (gSeq l_law_1c_s1 (gSeq l_law_1c_s2 (gSeq l_law_1c_s3 (gSeq l_law_1c_s4 (gSeq l_law_1c_s5 (gSeq l_law_1c_s6 (gSeq l_law_1c_s7 (gSeq l_law_1c_s8 (gSeq l_law_1c_s9 (gSeq l_law_1c_s10 gNop))))))))))
noncomputable def q_law_1 : Stt → Fl := (gAsgO 1 (oCall PM.m__law_source (avN 1 (lPv (eVar 0) lNil))))
noncomputable def q_law_2 : Stt → Fl := (gFor (iRangeW1 (aCons (eBin pAdd (eC (.int 4)) (eCallB pMin2 (aCons (eC (.int 8)) (aCons (eCallB pLen (aCons (eVar 0) aNil)) aNil)))) aNil)) l_law_1b l_law_1c)
noncomputable def q_law_3 : Stt → Fl := (gRet (eBin pEq (eCall m__law_told (avN 4 (lPv (eC (.int 3)) (lPv (eMake "Kernel" PM.m_Kernel___init__ 4 [.tup []] (aCons (eC (.int 2)) (aCons (frz (oLst aNil)) aNil))) (lPv (eC (.str "x")) (lPv (eC (.int 0)) lNil)))))) (eTup (aCons (eC (.str "InvalidNumber")) (aCons (eC (.int 0)) aNil)))))
theorem g_law_eq : g_law = (gSeq q_law_1 (gSeq q_law_2 (gSeq q_law_3 gNop))) := rfl
structure Gd (t l h s r : Int) : Prop where
  l0 : 0 ≤ l
  lh : l ≤ h
  ht : h ≤ t
  r0 : 0 ≤ r
  r1 : r < s
  s6 : s ≤ 6
def Bd1 (B x : Int) : Prop := -B ≤ x ∧ x ≤ B
def fsml (B : Int) : StF → Prop
  | .put c d => Bd1 B c ∧ Bd1 B d
  | .move z2 c d e => Nm z2 ∧ Bd1 B c ∧ Bd1 B d ∧ Bd1 B e
  | .sum z2 c d z3 e f => Nm z2 ∧ Bd1 B c ∧ Bd1 B d ∧ Nm z3 ∧ Bd1 B e ∧ Bd1 B f
structure Sml (t B : Int) (x : Stm) : Prop where
  g : Gd t x.l x.h x.s x.r
  z : Nm x.z
  a : Bd1 B x.a
  b : Bd1 B x.b
  k : fsml B x.k
theorem Bd1.mono {B C x : Int} (h : Bd1 B x) (hc : B ≤ C) : Bd1 C x := by unfold Bd1 at *; omega
theorem fsml.mono {B C : Int} {k : StF} (h : fsml B k) (hc : B ≤ C) : fsml C k := by
  cases k with
  | put c d => exact ⟨h.1.mono hc, h.2.mono hc⟩
  | move z2 c d e => exact ⟨h.1, h.2.1.mono hc, h.2.2.1.mono hc, h.2.2.2.mono hc⟩
  | sum z2 c d z3 e f => exact ⟨h.1, h.2.1.mono hc, h.2.2.1.mono hc, h.2.2.2.1, h.2.2.2.2.1.mono hc, h.2.2.2.2.2.mono hc⟩
theorem Sml.mono {t B C : Int} {x : Stm} (h : Sml t B x) (hc : B ≤ C) : Sml t C x := ⟨h.g, h.z, h.a.mono hc, h.b.mono hc, h.k.mono hc⟩
theorem nm_x : Nm "x" := ⟨arr_x, by decide +kernel⟩
theorem sm8 {x : Int} (h0 : 0 ≤ x) (h : x ≤ 1000) : x.natAbs < 2 ^ 8000 := Nat.lt_of_le_of_lt (m := 1000) (by omega) (by decide +kernel)
theorem e_guard {k : Nat} {m : MO} (hp : Src k m) (hk : k < 2 ^ 40) (t : Int) (t0 : 1 ≤ t) (tb : t ≤ 40) : ∃ l h s r m', m__law_guard [.bor 0, .val (.int t)] [m] = .ok (gt l h s r) [m'] ∧ 0 ≤ l ∧ l ≤ h ∧ h ≤ t ∧ 0 ≤ r ∧ r < s ∧ s ≤ 5 ∧ Src (k + 5) m' := by
  obtain ⟨d, m1, e1, a1, z1, p1⟩ := e_draw hp (by omega) 3 (by decide) (by decide +kernel)
  have e0 := eqB_int d 0
  by_cases q : d = 0
  · refine ⟨0, t, 1, 0, m1, ?_, by omega, by omega, by omega, by omega, by omega, by omega, p1.mono (by omega)⟩
    have b : (d == 0) = true := by simp [q]
    clear hp hk a1 z1 p1 q t0 tb
    unfold m__law_guard
    rw [g__law_guard_eq]
    unfold q__law_guard_1
    iterate 6 (walk_at "ev"; try walk_at "evs")
  · obtain ⟨d1, m2, e2, a2, z2, p2⟩ := e_draw p1 (by omega) (t + 1) (by omega) (sm8 (by omega) (by omega))
    obtain ⟨d2, m3, e3, a3, z3, p3⟩ := e_draw p2 (by omega) 5 (by decide) (by decide +kernel)
    obtain ⟨d3, m4, e4, a4, z4, p4⟩ := e_draw p3 (by omega) (t - d1 + 1) (by omega) (sm8 (by omega) (by omega))
    obtain ⟨d4, m5, e5, a5, z5, p5⟩ := e_draw p4 (by omega) (1 + d2) (by omega) (sm8 (by omega) (by omega))
    refine ⟨d1, d1 + d3, 1 + d2, d4, m5, ?_, a2, by omega, by omega, a5, z5, by omega, p5⟩
    have b : (d == 0) = false := by simp [q]
    clear hp hk a1 z1 p1 q t0 tb a2 z2 p2 a3 z3 p3 a4 z4 p4 a5 z5 p5
    have t1 : q__law_guard_1 ⟨[some (.bor 0), some (.val (.int t)), none, none], [m]⟩ = .nx ⟨[some (.bor 0), some (.val (.int t)), none, none], [m1]⟩ := by
      clear e2 e3 e4 e5
      unfold q__law_guard_1
      iterate 6 (walk_at "ev"; try walk_at "evs")
    have t2 : q__law_guard_2 ⟨[some (.bor 0), some (.val (.int t)), none, none], [m1]⟩ = .nx ⟨[some (.bor 0), some (.val (.int t)), some (.val (.int d1)), some (.val (.int (1 + d2)))], [m3]⟩ := by
      clear e1 e4 e5 b e0 t1
      unfold q__law_guard_2
      iterate 6 (walk_at "ev"; try walk_at "evs")
    have t3 : q__law_guard_3 ⟨[some (.bor 0), some (.val (.int t)), some (.val (.int d1)), some (.val (.int (1 + d2)))], [m3]⟩ = .rt (gt d1 (d1 + d3) (1 + d2) d4) ⟨[some (.bor 0), some (.val (.int t)), some (.val (.int d1)), some (.val (.int (1 + d2)))], [m5]⟩ := by
      clear e1 e2 e3 b e0 t1 t2
      generalize 1 + d2 = s at *
      unfold q__law_guard_3
      iterate 6 (walk_at "ev"; try walk_at "evs")
    unfold m__law_guard
    rw [g__law_guard_eq]
    simp only [mOf, start0, List.map_cons, List.map_nil, List.length_cons, List.length_nil, Nat.reduceAdd, Nat.reduceSub, List.replicate, List.cons_append, List.nil_append]
    rw [seq_nx t1, seq_nx t2, seq_rt t3]
    rfl
theorem e_cell {k : Nat} {m : MO} (hp : Src k m) (hk : k < 2 ^ 40) : ∃ a b m', m__law_cell [.bor 0] [m] = .ok (.tup [.int a, .int b]) [m'] ∧ (Bd1 20 a ∧ Bd1 20 b) ∧ Src (k + 2) m' := by
  obtain ⟨d1, m1, e1, a1, z1, p1⟩ := e_draw hp (by omega) 6 (by decide) (by decide +kernel)
  obtain ⟨d2, m2, e2, a2, z2, p2⟩ := e_draw p1 (by omega) 9 (by decide) (by decide +kernel)
  refine ⟨d1 - 2, d2 - 3, m2, ?_, ⟨by unfold Bd1; omega, by unfold Bd1; omega⟩, p2⟩
  clear hp hk a1 z1 p1 a2 z2 p2
  unfold m__law_cell
  rw [g__law_cell_eq]
  unfold q__law_cell_1
  iterate 6 (walk_at "ev"; try walk_at "evs")
abbrev xyz (o : Str) : PV := .lst [.str "x", .str o]
theorem name_at {o : Str} (ho : Nm o) {d : Int} (h0 : 0 ≤ d) (h1 : d < 2) : ∃ z, Nm z ∧ atI [PV.str "x", PV.str o] d = some (.str z) := by
  have : d = 0 ∨ d = 1 := by omega
  rcases this with rfl | rfl
  · exact ⟨"x", nm_x, at0 _ _⟩
  · exact ⟨o, ho, at1 _ _ _⟩
theorem e_statement {o : Str} (ho : Nm o) {k : Nat} {m : MO} (hp : Src k m) (hk : k < 2 ^ 30) (t : Int) (t0 : 1 ≤ t) (tb : t ≤ 40) : ∃ x m', m__law_statement [.bor 0, .val (.int t), .val (xyz o)] [m] = .ok x.pv [m'] ∧ Sml t 20 x ∧ Src (k + 18) m' := by
  obtain ⟨a, b, m1, e1, a1, p1⟩ := e_cell hp (by omega)
  obtain ⟨l, h, s, r, m2, e2, l0, lh, ht, r0, r1, sb, p2⟩ := e_guard p1 (by omega) t t0 tb
  obtain ⟨n1, m3, e3, n10, n11, p3⟩ := e_draw p2 (by omega) 2 (by decide) (by decide +kernel)
  obtain ⟨n2, m4, e4, n20, n21, p4⟩ := e_draw p3 (by omega) 2 (by decide) (by decide +kernel)
  obtain ⟨n3, m5, e5, n30, n31, p5⟩ := e_draw p4 (by omega) 2 (by decide) (by decide +kernel)
  obtain ⟨c, d, m6, e6, c1, p6⟩ := e_cell p5 (by omega)
  obtain ⟨e, f, m7, e7, f1, p7⟩ := e_cell p6 (by omega)
  obtain ⟨p, m8, e8, q0, q1, p8⟩ := e_draw p7 (by omega) 5 (by decide) (by decide +kernel)
  obtain ⟨z, hz, i1⟩ := name_at ho n10 n11
  obtain ⟨z2, hz2, i2⟩ := name_at ho n20 n21
  obtain ⟨z3, hz3, i3⟩ := name_at ho n30 n31
  have s200 : s < 2 ^ 200 := by
    have : (5 : Int) < 2 ^ 200 := by decide +kernel
    omega
  have e0 := eqB_int p 3
  have t1 : q__law_statement_1 ⟨[some (.bor 0), some (.val (.int t)), some (.val (xyz o)), none, none, none, none, none, none, none, none, none], [m]⟩ = .nx ⟨[some (.bor 0), some (.val (.int t)), some (.val (xyz o)), some (.val (.int a)), some (.val (.int b)), some (.val (gt l h s r)), none, none, none, none, none, none], [m2]⟩ := by
    clear e3 e4 e5 e6 e7 e8 i1 i2 i3 e0 hp hk p1 p2 p3 p4 p5 p6 p7 p8
    unfold q__law_statement_1
    iterate 6 (walk_at "ev"; try walk_at "evs")
  have t2 : q__law_statement_2 ⟨[some (.bor 0), some (.val (.int t)), some (.val (xyz o)), some (.val (.int a)), some (.val (.int b)), some (.val (gt l h s r)), none, none, none, none, none, none], [m2]⟩ = .nx ⟨[some (.bor 0), some (.val (.int t)), some (.val (xyz o)), some (.val (.int a)), some (.val (.int b)), some (.val (gt l h s r)), some (.val (.str z)), none, none, none, none, none], [m3]⟩ := by
    clear e1 e2 e4 e5 e6 e7 e8 i2 i3 e0 hp hk p1 p2 p3 p4 p5 p6 p7 p8 t1
    have le : ((2 : Nat) : Int) = 2 := rfl
    unfold q__law_statement_2
    iterate 6 (walk_at "ev"; try walk_at "evs")
  have t3 : q__law_statement_3 ⟨[some (.bor 0), some (.val (.int t)), some (.val (xyz o)), some (.val (.int a)), some (.val (.int b)), some (.val (gt l h s r)), some (.val (.str z)), none, none, none, none, none], [m3]⟩ = .nx ⟨[some (.bor 0), some (.val (.int t)), some (.val (xyz o)), some (.val (.int a)), some (.val (.int b)), some (.val (gt l h s r)), some (.val (.str z)), some (.val (.lst [.str z2, .str z3])), none, none, none, none], [m5]⟩ := by
    have b1 : l__law_statement_1e ⟨[some (.bor 0), some (.val (.int t)), some (.val (xyz o)), some (.val (.int a)), some (.val (.int b)), some (.val (gt l h s r)), some (.val (.str z)), none, none, none, none, some (.val (.int 0))], [m3]⟩ = .ok (.str z2) ⟨[some (.bor 0), some (.val (.int t)), some (.val (xyz o)), some (.val (.int a)), some (.val (.int b)), some (.val (gt l h s r)), some (.val (.str z)), none, none, none, none, some (.val (.int 0))], [m4]⟩ := by
      clear e1 e2 e3 e5 e6 e7 e8 i1 i3 e0 hp hk p1 p2 p3 p4 p5 p6 p7 p8 t1 t2
      have le : ((2 : Nat) : Int) = 2 := rfl
      unfold l__law_statement_1e
      iterate 6 (walk_at "ev"; try walk_at "evs")
    have b2 : l__law_statement_1e ⟨[some (.bor 0), some (.val (.int t)), some (.val (xyz o)), some (.val (.int a)), some (.val (.int b)), some (.val (gt l h s r)), some (.val (.str z)), none, none, none, none, some (.val (.int 1))], [m4]⟩ = .ok (.str z3) ⟨[some (.bor 0), some (.val (.int t)), some (.val (xyz o)), some (.val (.int a)), some (.val (.int b)), some (.val (gt l h s r)), some (.val (.str z)), none, none, none, none, some (.val (.int 1))], [m5]⟩ := by
      clear e1 e2 e3 e4 e6 e7 e8 i1 i2 e0 hp hk p1 p2 p3 p4 p5 p6 p7 p8 t1 t2 b1
      have le : ((2 : Nat) : Int) = 2 := rfl
      unfold l__law_statement_1e
      iterate 6 (walk_at "ev"; try walk_at "evs")
    have c : compL [11] l__law_statement_1c l__law_statement_1d l__law_statement_1e [.int 0, .int 1] [] ⟨[some (.bor 0), some (.val (.int t)), some (.val (xyz o)), some (.val (.int a)), some (.val (.int b)), some (.val (gt l h s r)), some (.val (.str z)), none, none, none, none, none], [m3]⟩ = .ok [.str z2, .str z3] ⟨[some (.bor 0), some (.val (.int t)), some (.val (xyz o)), some (.val (.int a)), some (.val (.int b)), some (.val (gt l h s r)), some (.val (.str z)), none, none, none, none, none], [m5]⟩ := by
      rw [compL_cons _ _ _ _ _ _ _ _ _ (show l__law_statement_1c (.int 0) ⟨[some (.bor 0), some (.val (.int t)), some (.val (xyz o)), some (.val (.int a)), some (.val (.int b)), some (.val (gt l h s r)), some (.val (.str z)), none, none, none, none, none], [m3]⟩ = some ⟨[some (.bor 0), some (.val (.int t)), some (.val (xyz o)), some (.val (.int a)), some (.val (.int b)), some (.val (gt l h s r)), some (.val (.str z)), none, none, none, none, some (.val (.int 0))], [m3]⟩ from rfl)]
      simp only [l__law_statement_1d, tYesD, Res.bind_ok, if_true, b1, List.length_nil]
      rw [if_pos (by decide), show wipeS [11] ⟨[some (.bor 0), some (.val (.int t)), some (.val (xyz o)), some (.val (.int a)), some (.val (.int b)), some (.val (gt l h s r)), some (.val (.str z)), none, none, none, none, some (.val (.int 0))], [m4]⟩ = ⟨[some (.bor 0), some (.val (.int t)), some (.val (xyz o)), some (.val (.int a)), some (.val (.int b)), some (.val (gt l h s r)), some (.val (.str z)), none, none, none, none, none], [m4]⟩ from rfl]
      show compL [11] l__law_statement_1c tYesD l__law_statement_1e [.int 1] [.str z2] ⟨[some (.bor 0), some (.val (.int t)), some (.val (xyz o)), some (.val (.int a)), some (.val (.int b)), some (.val (gt l h s r)), some (.val (.str z)), none, none, none, none, none], [m4]⟩ = _
      rw [compL_cons _ _ _ _ _ _ _ _ _ (show l__law_statement_1c (.int 1) ⟨[some (.bor 0), some (.val (.int t)), some (.val (xyz o)), some (.val (.int a)), some (.val (.int b)), some (.val (gt l h s r)), some (.val (.str z)), none, none, none, none, none], [m4]⟩ = some ⟨[some (.bor 0), some (.val (.int t)), some (.val (xyz o)), some (.val (.int a)), some (.val (.int b)), some (.val (gt l h s r)), some (.val (.str z)), none, none, none, none, some (.val (.int 1))], [m4]⟩ from rfl)]
      simp only [tYesD, Res.bind_ok, if_true, b2, List.length_cons, List.length_nil]
      rw [if_pos (by decide)]
      rfl
    have i : iRangeW1 (aCons (eC (.int 2)) aNil) ⟨[some (.bor 0), some (.val (.int t)), some (.val (xyz o)), some (.val (.int a)), some (.val (.int b)), some (.val (gt l h s r)), some (.val (.str z)), none, none, none, none, none], [m3]⟩ = .ok [.int 0, .int 1] ⟨[some (.bor 0), some (.val (.int t)), some (.val (xyz o)), some (.val (.int a)), some (.val (.int b)), some (.val (gt l h s r)), some (.val (.str z)), none, none, none, none, none], [m3]⟩ := rfl
    unfold q__law_statement_3 gAsg frz oComp
    rw [i]
    simp only [Res.bind_ok]
    rw [show wipeS [11] ⟨[some (.bor 0), some (.val (.int t)), some (.val (xyz o)), some (.val (.int a)), some (.val (.int b)), some (.val (gt l h s r)), some (.val (.str z)), none, none, none, none, none], [m3]⟩ = ⟨[some (.bor 0), some (.val (.int t)), some (.val (xyz o)), some (.val (.int a)), some (.val (.int b)), some (.val (gt l h s r)), some (.val (.str z)), none, none, none, none, none], [m3]⟩ from rfl, c]
    rfl
  have t4 : q__law_statement_4 ⟨[some (.bor 0), some (.val (.int t)), some (.val (xyz o)), some (.val (.int a)), some (.val (.int b)), some (.val (gt l h s r)), some (.val (.str z)), some (.val (.lst [.str z2, .str z3])), none, none, none, none], [m5]⟩ = .nx ⟨[some (.bor 0), some (.val (.int t)), some (.val (xyz o)), some (.val (.int a)), some (.val (.int b)), some (.val (gt l h s r)), some (.val (.str z)), some (.val (.lst [.str z2, .str z3])), some (.val (.tup [.int c, .int d])), some (.val (.tup [.int e, .int f])), none, none], [m7]⟩ := by
    clear e1 e2 e3 e4 e5 e8 i1 i2 i3 e0 hp hk p1 p2 p3 p4 p5 p6 p7 p8 t1 t2 t3
    unfold q__law_statement_4
    iterate 6 (walk_at "ev"; try walk_at "evs")
  have t5 : q__law_statement_5 ⟨[some (.bor 0), some (.val (.int t)), some (.val (xyz o)), some (.val (.int a)), some (.val (.int b)), some (.val (gt l h s r)), some (.val (.str z)), some (.val (.lst [.str z2, .str z3])), some (.val (.tup [.int c, .int d])), some (.val (.tup [.int e, .int f])), none, none], [m7]⟩ = .nx ⟨[some (.bor 0), some (.val (.int t)), some (.val (xyz o)), some (.val (.int a)), some (.val (.int b)), some (.val (gt l h s r)), some (.val (.str z)), some (.val (.lst [.str z2, .str z3])), some (.val (.tup [.int c, .int d])), some (.val (.tup [.int e, .int f])), some (.val (.int p)), none], [m8]⟩ := by
    clear e1 e2 e3 e4 e5 e6 e7 i1 i2 i3 e0 hp hk p1 p2 p3 p4 p5 p6 p7 p8 t1 t2 t3 t4
    unfold q__law_statement_5
    iterate 5 (walk_at "ev"; try walk_at "evs")
  have key : ∀ {R : PV} {sx : Stt} {mx : MO}, (gSeq q__law_statement_6 (gSeq q__law_statement_7 (gSeq q__law_statement_8 gNop))) ⟨[some (.bor 0), some (.val (.int t)), some (.val (xyz o)), some (.val (.int a)), some (.val (.int b)), some (.val (gt l h s r)), some (.val (.str z)), some (.val (.lst [.str z2, .str z3])), some (.val (.tup [.int c, .int d])), some (.val (.tup [.int e, .int f])), some (.val (.int p)), none], [m8]⟩ = .rt R sx → sx.mu = [mx] → m__law_statement [.bor 0, .val (.int t), .val (xyz o)] [m] = .ok R [mx] := fun {R sx mx} q qm => by
    unfold m__law_statement
    rw [g__law_statement_eq]
    simp only [mOf, start0, List.map_cons, List.map_nil, List.length_cons, List.length_nil, Nat.reduceAdd, Nat.reduceSub, List.replicate, List.cons_append, List.nil_append]
    rw [seq_nx t1, seq_nx t2, seq_nx t3, seq_nx t4, seq_nx t5, q]
    show FRes.ok _ sx.mu = _
    rw [qm]
  by_cases y : p < 3
  · obtain ⟨u, m9, e9, u0, u1, p9⟩ := e_draw p8 (by omega) 4 (by decide) (by decide +kernel)
    obtain ⟨v, m10, e10, v0, v1, p10⟩ := e_draw p9 (by omega) 6 (by decide) (by decide +kernel)
    refine ⟨⟨l, h, s, r, z, a, b, .put (u - 1) (v - 2)⟩, m10, key (seq_rt (s1 := ⟨[some (.bor 0), some (.val (.int t)), some (.val (xyz o)), some (.val (.int a)), some (.val (.int b)), some (.val (gt l h s r)), some (.val (.str z)), some (.val (.lst [.str z2, .str z3])), some (.val (.tup [.int c, .int d])), some (.val (.tup [.int e, .int f])), some (.val (.int p)), none], [m10]⟩) ?_) rfl, ⟨⟨l0, lh, ht, r0, r1, by show s ≤ 6; omega⟩, hz, a1.1, a1.2, ⟨by unfold Bd1; omega, by unfold Bd1; omega⟩⟩, p10.mono (by omega)⟩
    have dy : decide (p < 3) = true := decide_eq_true y
    show q__law_statement_6 ⟨[some (.bor 0), some (.val (.int t)), some (.val (xyz o)), some (.val (.int a)), some (.val (.int b)), some (.val (gt l h s r)), some (.val (.str z)), some (.val (.lst [.str z2, .str z3])), some (.val (.tup [.int c, .int d])), some (.val (.tup [.int e, .int f])), some (.val (.int p)), none], [m8]⟩ = .rt (.tup [.str "put", gt l h s r, .str z, .int a, .int b, .int (u - 1), .int (v - 2)]) ⟨[some (.bor 0), some (.val (.int t)), some (.val (xyz o)), some (.val (.int a)), some (.val (.int b)), some (.val (gt l h s r)), some (.val (.str z)), some (.val (.lst [.str z2, .str z3])), some (.val (.tup [.int c, .int d])), some (.val (.tup [.int e, .int f])), some (.val (.int p)), none], [m10]⟩
    clear e1 e2 e3 e4 e5 e6 e7 e8 i1 i2 i3 e0 hp hk p1 p2 p3 p4 p5 p6 p7 p8 p9 p10 t1 t2 t3 t4 t5 key y
    unfold q__law_statement_6
    iterate 7 (walk_at "ev"; try walk_at "evs")
  · have dy : decide (p < 3) = false := decide_eq_false y
    have t6 : q__law_statement_6 ⟨[some (.bor 0), some (.val (.int t)), some (.val (xyz o)), some (.val (.int a)), some (.val (.int b)), some (.val (gt l h s r)), some (.val (.str z)), some (.val (.lst [.str z2, .str z3])), some (.val (.tup [.int c, .int d])), some (.val (.tup [.int e, .int f])), some (.val (.int p)), none], [m8]⟩ = .nx ⟨[some (.bor 0), some (.val (.int t)), some (.val (xyz o)), some (.val (.int a)), some (.val (.int b)), some (.val (gt l h s r)), some (.val (.str z)), some (.val (.lst [.str z2, .str z3])), some (.val (.tup [.int c, .int d])), some (.val (.tup [.int e, .int f])), some (.val (.int p)), none], [m8]⟩ := by
      clear e1 e2 e3 e4 e5 e6 e7 e8 i1 i2 i3 e0 hp hk p1 p2 p3 p4 p5 p6 p7 p8 t1 t2 t3 t4 t5 key y
      unfold q__law_statement_6
      iterate 5 (walk_at "ev"; try walk_at "evs")
    by_cases w : p = 3
    · obtain ⟨u, m9, e9, u0, u1, p9⟩ := e_draw p8 (by omega) 5 (by decide) (by decide +kernel)
      refine ⟨⟨l, h, s, r, z, a, b, .move z2 c d (u - 2)⟩, m9, key ((seq_nx t6).trans (seq_rt (s1 := ⟨[some (.bor 0), some (.val (.int t)), some (.val (xyz o)), some (.val (.int a)), some (.val (.int b)), some (.val (gt l h s r)), some (.val (.str z)), some (.val (.lst [.str z2, .str z3])), some (.val (.tup [.int c, .int d])), some (.val (.tup [.int e, .int f])), some (.val (.int p)), none], [m9]⟩) ?_)) rfl, ⟨⟨l0, lh, ht, r0, r1, by show s ≤ 6; omega⟩, hz, a1.1, a1.2, ⟨hz2, c1.1, c1.2, by unfold Bd1; omega⟩⟩, p9.mono (by omega)⟩
      have dw : (p == 3) = true := by simp [w]
      have a0 : atI [PV.str z2, PV.str z3] 0 = some (.str z2) := at0 _ _
      have c0 : atI [PV.int c, PV.int d] 0 = some (.int c) := at0 _ _
      have c1' : atI [PV.int c, PV.int d] 1 = some (.int d) := at1 _ _ _
      show q__law_statement_7 ⟨[some (.bor 0), some (.val (.int t)), some (.val (xyz o)), some (.val (.int a)), some (.val (.int b)), some (.val (gt l h s r)), some (.val (.str z)), some (.val (.lst [.str z2, .str z3])), some (.val (.tup [.int c, .int d])), some (.val (.tup [.int e, .int f])), some (.val (.int p)), none], [m8]⟩ = .rt (.tup [.str "move", gt l h s r, .str z, .int a, .int b, .str z2, .int c, .int d, .int (u - 2)]) ⟨[some (.bor 0), some (.val (.int t)), some (.val (xyz o)), some (.val (.int a)), some (.val (.int b)), some (.val (gt l h s r)), some (.val (.str z)), some (.val (.lst [.str z2, .str z3])), some (.val (.tup [.int c, .int d])), some (.val (.tup [.int e, .int f])), some (.val (.int p)), none], [m9]⟩
      clear e1 e2 e3 e4 e5 e6 e7 e8 i1 i2 i3 hp hk p1 p2 p3 p4 p5 p6 p7 p8 p9 t1 t2 t3 t4 t5 t6 key y w dy
      unfold q__law_statement_7
      iterate 7 (walk_at "ev"; try walk_at "evs")
    · have dw : (p == 3) = false := by simp [w]
      have t7 : q__law_statement_7 ⟨[some (.bor 0), some (.val (.int t)), some (.val (xyz o)), some (.val (.int a)), some (.val (.int b)), some (.val (gt l h s r)), some (.val (.str z)), some (.val (.lst [.str z2, .str z3])), some (.val (.tup [.int c, .int d])), some (.val (.tup [.int e, .int f])), some (.val (.int p)), none], [m8]⟩ = .nx ⟨[some (.bor 0), some (.val (.int t)), some (.val (xyz o)), some (.val (.int a)), some (.val (.int b)), some (.val (gt l h s r)), some (.val (.str z)), some (.val (.lst [.str z2, .str z3])), some (.val (.tup [.int c, .int d])), some (.val (.tup [.int e, .int f])), some (.val (.int p)), none], [m8]⟩ := by
        clear e1 e2 e3 e4 e5 e6 e7 e8 i1 i2 i3 hp hk p1 p2 p3 p4 p5 p6 p7 p8 t1 t2 t3 t4 t5 t6 key y w dy
        unfold q__law_statement_7
        iterate 5 (walk_at "ev"; try walk_at "evs")
      refine ⟨⟨l, h, s, r, z, a, b, .sum z2 c d z3 e f⟩, m8, key ((seq_nx t6).trans ((seq_nx t7).trans (seq_rt (s1 := ⟨[some (.bor 0), some (.val (.int t)), some (.val (xyz o)), some (.val (.int a)), some (.val (.int b)), some (.val (gt l h s r)), some (.val (.str z)), some (.val (.lst [.str z2, .str z3])), some (.val (.tup [.int c, .int d])), some (.val (.tup [.int e, .int f])), some (.val (.int p)), none], [m8]⟩) ?_))) rfl, ⟨⟨l0, lh, ht, r0, r1, by show s ≤ 6; omega⟩, hz, a1.1, a1.2, ⟨hz2, c1.1, c1.2, hz3, f1.1, f1.2⟩⟩, p8.mono (by omega)⟩
      rfl
end K20
/-! K20_V: names, kernels drawn; what is told of a call; the law holds. -/
namespace K20
open PySem PySem.Spec PyProof.Rows L2 PL PN PM
section
variable {n : Int} {xs : List Stm} {bs : List Int} {x : Stm}
theorem rng1 {st s1 : Stt} {fa : Stt → Res PV} {j : Int} (h : fa st = .ok (.int j) s1) : iRangeW1 (aCons fa aNil) st = .ok (rng 0 j.toNat) s1 := by
  simp only [iRangeW1, aCons, aNil, h, Res.bind_ok]
theorem cl2 {x0 : Option SV} {ro : List (Option SV)} {m m1 m2 : MO} {M : List SV → List MO → FRes} {f1 f2 : Stt → Res PV} {p1 p2 q : PV} (h1 : f1 ⟨x0 :: some (.own m) :: ro, []⟩ = .ok p1 ⟨x0 :: some (.own m1) :: ro, []⟩) (h2 : f2 ⟨x0 :: some (.own m1) :: ro, []⟩ = .ok p2 ⟨x0 :: some (.own m1) :: ro, []⟩) (e : M [.bor 0, .val p1, .val p2] [m1] = .ok q [m2]) : eCall M (avN 3 (lSl 1 (lPv f1 (lPv f2 lNil)))) ⟨x0 :: some (.own m) :: ro, []⟩ = .ok q ⟨x0 :: some (.own m2) :: ro, []⟩ := by
  simp only [eCall, avN, lSl, lPv, lNil, List.getElem?_cons_zero, List.getElem?_cons_succ, h1, h2, Res.bind_ok, List.length_cons, List.length_nil, Nat.reduceAdd, if_true, lowerA, PL.keyOf, distinct, getAll, getK, setAll, setK, List.set_cons_zero, List.set_cons_succ, Option.map_some, List.contains_nil, List.elem_nil, Bool.not_false, Bool.and_self, e]
  first | rfl | (simp [getAll, getK, setAll, setK, PL.keyOf, lowerA, distinct, e])
theorem Bar.nil {k : Nat} : Bar k [] := ⟨.nil, by simp⟩
theorem make_d {n : Int} {xs : List Stm} {st s1 : Stt} {fa : Stt → Res (List PV)} (ha : fa st = .ok [.int n, pvs xs] s1) (n0 : 1 ≤ n) (hx : ∀ x ∈ xs, x.ok n) : eMake "Kernel" PM.m_Kernel___init__ 4 [.tup []] fa st = .ok (kern n (xs.map Stm.pv) (([] : List Int).map PV.int)) s1 := by
  have hk := e_kernel_tup n n0 (xs.map Stm.pv) [] (fun p hp => by obtain ⟨x, h, rfl⟩ := List.mem_map.mp hp; exact e_is_stm (hx x h)) (by rw [List.length_map]; exact Bar.nil.ok)
  simp only [List.map_nil] at hk
  unfold eMake
  rw [ha]
  simp only [Res.bind_ok, List.length_cons, List.length_nil, Nat.reduceAdd, if_true, List.cons_append, List.nil_append, List.map_cons, List.map_nil, hk]
theorem bd300 {x : Int} (h : Bd1 20 x) : x.natAbs < 2 ^ 300 := Nat.lt_of_le_of_lt (m := 20) (by unfold Bd1 at h; omega) (by decide +kernel)
theorem bd1000 {x : Int} (h : Bd1 20 x) : x.natAbs < 2 ^ 1000 := up (bd300 h) (by decide)
theorem sml_ok {t n : Int} {x : Stm} (hx : Sml t 20 x) (ht : t ≤ n) : x.ok n := by
  refine ⟨hx.g.l0, hx.g.lh, Int.le_trans hx.g.ht ht, hx.g.r0, hx.g.r1, ?_, hx.z, bd300 hx.a, ?_⟩
  · have := hx.g.s6
    have : (6 : Int) < 2 ^ 200 := by decide +kernel
    omega
  · have hk := hx.k
    obtain ⟨l, h, s, r, z, a, b, k⟩ := x
    cases k with
    | put c d => exact bd300 hk.1
    | move z2 c d e => exact ⟨hk.1, bd300 hk.2.1⟩
    | sum z2 c d z3 e f => exact ⟨hk.1, bd300 hk.2.1, hk.2.2.2.1, bd300 hk.2.2.2.2.1⟩
theorem ac_b {t B : Int} (hx : Sml t B x) : ∀ p ∈ x.ac, Nm p.z ∧ Bd1 B p.a ∧ Bd1 B p.b := by
  intro p hp
  have hz := hx.z
  have ha := hx.a
  have hb := hx.b
  have hk := hx.k
  obtain ⟨l, h, s, r, z, a, b, k⟩ := x
  cases k with
  | put c d =>
    simp only [Stm.ac, List.mem_cons, List.not_mem_nil, or_false] at hp
    subst hp; exact ⟨hz, ha, hb⟩
  | move z2 c d e =>
    simp only [Stm.ac, List.mem_cons, List.not_mem_nil, or_false] at hp
    rcases hp with rfl | rfl
    · exact ⟨hk.1, hk.2.1, hk.2.2.1⟩
    · exact ⟨hz, ha, hb⟩
  | sum z2 c d z3 e f =>
    simp only [Stm.ac, List.mem_cons, List.not_mem_nil, or_false] at hp
    rcases hp with rfl | rfl | rfl
    · exact ⟨hk.1, hk.2.1, hk.2.2.1⟩
    · exact ⟨hk.2.2.2.1, hk.2.2.2.2.1, hk.2.2.2.2.2⟩
    · exact ⟨hz, ha, hb⟩
theorem sml_bd {t : Int} {x : Stm} (hx : Sml t 20 x) (ht : t ≤ 20) : x.Bd := by
  have g := hx.g
  have hg : isGuard x.l x.h x.s x.r = true := guard_iff.mpr ⟨g.l0, g.lh, g.r0, g.r1⟩
  have hh : x.h.natAbs < 2 ^ 1000 := bd1000 (by have := g.l0; have := g.lh; have := g.ht; unfold Bd1; omega)
  have hs : x.s.natAbs < 2 ^ 1000 := bd1000 (by have := g.r0; have := g.r1; have := g.s6; unfold Bd1; omega)
  refine ⟨fun p hp => ?_, fun c d h => ?_⟩
  · obtain ⟨_, q1, q2⟩ := ac_b hx p hp
    exact ⟨hg, hh, hs, bd1000 q1, bd1000 q2⟩
  · have hk := hx.k
    obtain ⟨l, h', s, r, z, a, b, k⟩ := x
    cases k with
    | put c' d' => cases h; exact ⟨hg, hh, hs, bd1000 hk.1, bd1000 hk.2⟩
    | _ => cases h
/-- a multiple of all small numbers -/
def MM : Int := 955888052326228459513511038256280353796626534577600
theorem mm_dv : ∀ k : Fin 121, k.val ≠ 0 → MM % (k.val : Int) = 0 := by decide +kernel
theorem mm_d {k : Int} (h0 : 0 < k) (h : k ≤ 120) : k ∣ MM := by
  have := mm_dv ⟨k.toNat, by omega⟩ (by show k.toNat ≠ 0; omega)
  have e : ((k.toNat : Nat) : Int) = k := by omega
  simp only [e] at this
  exact Int.dvd_of_emod_eq_zero this
theorem wh_of {t n : Int} {xs : List Stm} (h : ∀ x ∈ xs, Sml t 20 x) (ht : t ≤ n) (t20 : t ≤ 20) (hl : xs.length ≤ 12) : WH n MM xs := by
  refine ⟨hl, fun x hx => sml_ok (h x hx) ht, fun x hx => sml_bd (h x hx) t20, by decide +kernel, by decide +kernel, fun x hx ha => ?_⟩
  have hh := h x hx
  have a1 := hh.a
  have s1 := hh.g.s6
  have s0 : 0 < x.s := by have := hh.g.r0; have := hh.g.r1; omega
  unfold Bd1 at a1
  have p1 : 0 < (x.a.natAbs : Int) * x.s := Int.mul_pos (by omega) s0
  have p2 : (x.a.natAbs : Int) * x.s ≤ 20 * 6 := Int.le_trans (Int.mul_le_mul_of_nonneg_right (by omega) (by omega)) (Int.mul_le_mul_of_nonneg_left s1 (by decide))
  exact mm_d p1 (by omega)
end
theorem powE (k : Int) {v : Int} (h : okPow 10 k = true) (e : (10 : Int) ^ k.toNat = v) : pPow (.int 10) (.int k) = some (.int v) := by
  show (if okPow 10 k = true then some (PV.int ((10 : Int) ^ k.toNat)) else none) = _
  rw [if_pos h, e]
theorem p30 : pPow (.int 10) (.int 30) = some (.int (10 ^ 30)) := powE 30 (by decide +kernel) rfl
/-! ### names -/
theorem chainLL {st : Stt} {fa fb fc : Stt → Res PV} {i j k : Int} (ha : fa st = .ok (.int i) st) (hb : fb st = .ok (.int j) st) (hc : fc st = .ok (.int k) st) : eChain pLt pLt fa fb fc st = .ok (.bl (decide (i < j ∧ j < k))) st := by
  have e1 : pLt (.int i) (.int j) = some (.bl (decide (i < j))) := rfl
  have e2 : pLt (.int j) (.int k) = some (.bl (decide (j < k))) := rfl
  unfold eChain
  rw [ha, Res.bind_ok, hb, Res.bind_ok, e1]
  by_cases h : i < j
  · rw [decide_eq_true h]
    show ((fc st).bind fun r s3 => Res.opt s3 (pLt (.int j) r)) = _
    rw [hc, Res.bind_ok, e2, Res.opt_some]
    congr 2
    simp [h]
  · rw [decide_eq_false h]
    show Res.ok (PV.bl false) st = _
    congr 2
    simp [h]
theorem so_one {z : Str} (so : PyData.strOk z = true) {c : Nat} (hc : c ∈ z.cps.toList) : PyData.strOk ⟨#[c]⟩ = true := by
  unfold PyData.strOk at so ⊢
  rw [Array.all_eq_true_iff_forall_mem] at so ⊢
  intro x hx
  have : x = c := by simpa using hx
  subst this
  exact so x (by simpa using hc)
theorem eq_empty {l : List PV} {k : Nat} (h : ∀ p ∈ l, Dd p k) (hk : k + 1 ≤ 64) : pEqB (.lst l) (.lst []) = some l.isEmpty := by
  cases l with
  | nil => exact Dd.eq_self (k := 1) (Dd.lst fun p hp => nomatch hp) (by decide)
  | cons a r =>
    obtain ⟨d, h1, h2, h3⟩ := Dd.lst h
    obtain ⟨ds, g1, g2, g3⟩ := Dds.of h
    have e1 : toD (.lst (a :: r)) = some (.list ds) := by unfold toD; rw [g1]; rfl
    obtain rfl : d = .list ds := by rw [h1] at e1; exact Option.some.inj e1
    have sh : SeqAt.shaped (.list ds) = true := by
      unfold SeqAt.shaped
      rw [h2, decide_eq_true (Nat.le_trans h3 hk)]; rfl
    have e2 : toD (.lst []) = some (.list []) := rfl
    unfold pEqB
    rw [e1, e2]
    simp only
    rw [sh, show SeqAt.shaped (.list []) = true by decide +kernel]
    cases ds with
    | nil =>
      exfalso
      have : toDs (a :: r) = some [] := g1
      unfold toDs at this
      cases q : toD a with
      | none => rw [q] at this; cases this
      | some x =>
        rw [q] at this
        cases q2 : toDs r with
        | none => rw [q2] at this; cases this
        | some y => rw [q2] at this; cases this
    | cons x y => rfl
theorem e_isname (z : Str) (hl : z.length ≤ 1000) (so : PyData.strOk z = true) : m__law_is_name [.val (.str z)] [] = .ok (.bl (nmB z)) [] := by
  have hz : z.length = z.cps.size := rfl
  have len : eCallB pLen (aCons (eVar 0) aNil) ⟨[some (.val (.str z)), some (.val (.str letters)), none], []⟩ = .ok (.int (z.length : Int)) ⟨[some (.val (.str z)), some (.val (.str letters)), none], []⟩ := callB1_at (p := .str z) rfl (by
    show (if z.length ≤ 16777216 then some (PV.int (z.length : Int)) else none) = _
    rw [if_pos (by omega)])
  have c := compL_F (vs := [2]) (a := aName 2) (ft := tOf (eBin pNotInSg (eVar 2) (eVar 1))) (fe := eVar 2) (s := ⟨[some (.val (.str z)), some (.val (.str letters)), none], []⟩) (fun c : Nat => PV.str ⟨#[c]⟩) (fun c : Nat => PV.str ⟨#[c]⟩) (fun c => !ltB c) z.cps.toList [] (by simp; omega) (fun x hx =>
    ⟨⟨[some (.val (.str z)), some (.val (.str letters)), some (.val (.str ⟨#[x]⟩))], []⟩, ⟨[some (.val (.str z)), some (.val (.str letters)), some (.val (.str ⟨#[x]⟩))], []⟩, rfl, tOf_z (bin_at rfl rfl rfl), fun _ => rfl, fun _ => ⟨⟨[some (.val (.str z)), some (.val (.str letters)), some (.val (.str ⟨#[x]⟩))], []⟩, rfl, rfl⟩⟩)
  rw [List.nil_append] at c
  have cc := comp_at (vs := [2]) (fi := iTxt (eVar 0)) (a := aName 2) (ft := tOf (eBin pNotInSg (eVar 2) (eVar 1))) (fe := eVar 2) (l := z.cps.toList.map fun c => PV.str ⟨#[c]⟩) (st := ⟨[some (.val (.str z)), some (.val (.str letters)), none], []⟩) (s2 := ⟨[some (.val (.str z)), some (.val (.str letters)), none], []⟩) rfl c rfl
  have eq : pEqB (.lst ((z.cps.toList.filter fun c => !ltB c).map fun c : Nat => PV.str ⟨#[c]⟩)) (.lst []) = some (z.cps.toList.all ltB) := by
    rw [eq_empty (k := 0) (fun p hp => by
      obtain ⟨c, hc, rfl⟩ := List.mem_map.mp hp
      exact Dd.str (so_one so (List.mem_filter.mp hc).1)) (by decide)]
    congr 1
    rw [Bool.eq_iff_iff, List.isEmpty_iff, List.map_eq_nil_iff, List.filter_eq_nil_iff, List.all_eq_true]
    constructor
    · intro h x hx
      have := h x hx
      simpa using this
    · intro h x hx
      have := h x hx
      simp [this]
  have b : g__law_is_name ⟨[some (.val (.str z)), none, none], []⟩ = .rt (.bl (decide ((0 : Int) < (z.length : Int) ∧ (z.length : Int) < 9) && z.cps.toList.all ltB)) ⟨[some (.val (.str z)), some (.val (.str letters)), none], []⟩ := by
    unfold g__law_is_name
    have t1 : gAsg (eC (.str "abcdefghijklmnopqrstuvwxyz")) (aName 1) ⟨[some (.val (.str z)), none, none], []⟩ = .nx ⟨[some (.val (.str z)), some (.val (.str letters)), none], []⟩ := asg_at rfl rfl
    refine (seq_nx t1).trans (seq_rt (ret_at (an_v (chainLL rfl len rfl) (bin_at cc (PM.lst_at (l := []) rfl (by show (0 : Nat) ≤ 16777216; decide)) ?_))))
    show (pEqB _ _).map PV.bl = _
    rw [eq]
    rfl
  have e : (decide ((0 : Int) < (z.length : Int) ∧ (z.length : Int) < 9) && z.cps.toList.all ltB) = nmB z := by
    unfold nmB
    congr 1
    rw [decide_eq_decide]
    omega
  rw [e] at b
  exact congrArg endF b
theorem lts_len : letters.cps.toList.length = 26 := by decide +kernel
theorem lts_so : ∀ c ∈ letters.cps.toList, c < 0x110000 := by decide +kernel
theorem joined (cs : List Nat) : Txt.join "" (cs.map fun c => (⟨#[c]⟩ : Str)) = ⟨cs.toArray⟩ := by
  have h := SX.join_S [] (cs.map fun c => [c])
  rw [List.map_map] at h
  have e : ∀ l : List Nat, TL.joinL [] (l.map fun c => [c]) = l := fun l => by
    induction l with
    | nil => rfl
    | cons a r ih =>
      cases r with
      | nil => rfl
      | cons b r =>
        show [a] ++ [] ++ TL.joinL [] ((b :: r).map fun c => [c]) = _
        rw [ih]
        rfl
  rw [e] at h
  exact h
theorem name_loop : ∀ (L : List PV) (acc : List PV) (k : Nat) (m : MO), Src k m → k + L.length < 2 ^ 50 → acc.length + L.length ≤ 1000 → ∃ (cs : List Nat) (m' : MO), cs.length = L.length ∧ (∀ c ∈ cs, c ∈ letters.cps.toList) ∧ Src (k + L.length) m' ∧
    compL [2] (aName 2) tYesD (eBin pIx (eVar 1) (eCall PM.m__law_draw (avN 2 (lSl 0 (lPv (eC (.int 26)) lNil))))) L acc ⟨[some (.bor 0), some (.val (.str letters)), none], [m]⟩ = .ok (acc ++ cs.map fun c => PV.str ⟨#[c]⟩) ⟨[some (.bor 0), some (.val (.str letters)), none], [m']⟩
  | [], acc, k, m, hp, _, _ => ⟨[], m, rfl, fun c h => (nomatch h), hp, by simp [compL]⟩
  | p :: L, acc, k, m, hp, hk, hl => by
    rw [List.length_cons] at hk hl
    obtain ⟨d, m1, e1, a1, z1, p1⟩ := draw3 hp (by omega) 26 (by decide) (by decide)
    have hd : d.toNat < letters.cps.toList.length := by rw [lts_len]; omega
    obtain ⟨c, hc⟩ : ∃ c, letters.cps.toList[d.toNat]? = some c := ⟨_, List.getElem?_eq_getElem hd⟩
    have hix : pIx (.str letters) (.int d) = some (.str ⟨#[c]⟩) := by
      show (if letters.length ≤ 16777216 then (L2.atI letters.cps.toList d).map fun c => PV.str ⟨#[c]⟩ else none) = _
      rw [if_pos (by decide +kernel)]
      have : L2.atI letters.cps.toList d = some c := by
        unfold L2.atI
        have : ixN letters.cps.toList.length d = some d.toNat := by
          unfold ixN
          rw [lts_len]
          have h0 : (0 : Int) ≤ d := a1
          simp [h0]
          omega
        rw [this]
        exact hc
      rw [this]
      rfl
    have e2 : eBin pIx (eVar 1) (eCall PM.m__law_draw (avN 2 (lSl 0 (lPv (eC (.int 26)) lNil)))) ⟨[some (.bor 0), some (.val (.str letters)), some (.val p)], [m]⟩ = .ok (.str ⟨#[c]⟩) ⟨[some (.bor 0), some (.val (.str letters)), some (.val p)], [m1]⟩ := bin_at2 (p := .str letters) (q := .int d) rfl (dr rfl e1) hix
    obtain ⟨cs, m2, h1, h2, p2, e3⟩ := name_loop L (acc ++ [.str ⟨#[c]⟩]) (k + 1) m1 p1 (by omega) (by rw [List.length_append, List.length_singleton]; omega)
    refine ⟨c :: cs, m2, by rw [List.length_cons, List.length_cons, h1], fun x hx => ?_, p2.mono (by rw [List.length_cons]; omega), ?_⟩
    · rcases List.mem_cons.mp hx with rfl | hx
      · exact List.mem_of_getElem? hc
      · exact h2 x hx
    · rw [compL_cons _ _ _ _ _ _ _ _ _ (show aName 2 p ⟨[some (.bor 0), some (.val (.str letters)), none], [m]⟩ = some ⟨[some (.bor 0), some (.val (.str letters)), some (.val p)], [m]⟩ from rfl)]
      simp only [tYesD, Res.bind_ok, if_true, e2]
      rw [if_pos (by omega)]
      show compL [2] (aName 2) tYesD _ L _ ⟨[some (.bor 0), some (.val (.str letters)), none], [m1]⟩ = _
      refine e3.trans ?_
      rw [List.map_cons, List.append_assoc]
      rfl
theorem e_name {k : Nat} {m : MO} (hp : Src k m) (hk : k < 2 ^ 40) : ∃ o m', m__law_name [.bor 0] [m] = .ok (.str o) [m'] ∧ Nm o ∧ Src (k + 20) m' := by
  obtain ⟨d, m1, e1, a1, z1, p1⟩ := draw3 hp (by omega) 8 (by decide) (by decide)
  obtain ⟨cs, m2, h1, h2, p2, e3⟩ := name_loop (rng 0 (1 + d).toNat) [] (k + 1) m1 p1 (by rw [rng_length]; omega) (by rw [rng_length, List.length_nil]; omega)
  rw [rng_length] at h1 p2
  rw [List.nil_append] at e3
  refine ⟨⟨cs.toArray⟩, m2, ?_, ⟨⟨?_, ?_, fun c hc => h2 c (by simpa using hc)⟩, ?_⟩, p2.mono (by omega)⟩
  · have st : eJoin "" (frz (oComp [2] (iRangeW1 (aCons (eBin pAdd (eC (.int 1)) (eCall PM.m__law_draw (avN 2 (lSl 0 (lPv (eC (.int 8)) lNil))))) aNil)) (aName 2) tYesD (eBin pIx (eVar 1) (eCall PM.m__law_draw (avN 2 (lSl 0 (lPv (eC (.int 26)) lNil))))))) ⟨[some (.bor 0), some (.val (.str letters)), none], [m]⟩ =
        .ok (.str ⟨cs.toArray⟩) ⟨[some (.bor 0), some (.val (.str letters)), none], [m2]⟩ := by
      have eb : eBin pAdd (eC (.int 1)) (eCall PM.m__law_draw (avN 2 (lSl 0 (lPv (eC (.int 8)) lNil)))) ⟨[some (.bor 0), some (.val (.str letters)), none], [m]⟩ = .ok (.int (1 + d)) ⟨[some (.bor 0), some (.val (.str letters)), none], [m1]⟩ := bin_at2 (p := .int 1) (q := .int d) rfl (dr rfl e1) rfl
      have f := PM.comp_in (vs := [2]) (a := aName 2) (ft := tYesD) (fe := eBin pIx (eVar 1) (eCall PM.m__law_draw (avN 2 (lSl 0 (lPv (eC (.int 26)) lNil))))) (st := ⟨[some (.bor 0), some (.val (.str letters)), none], [m]⟩) (s0 := ⟨[some (.bor 0), some (.val (.str letters)), none], [m1]⟩) (s2 := ⟨[some (.bor 0), some (.val (.str letters)), none], [m2]⟩)
        (rng1 (j := 1 + d) eb) e3 rfl
      unfold eJoin
      rw [f]
      show (match strsOf (cs.map fun c : Nat => PV.str ⟨#[c]⟩) with | some ys => _ | none => _) = _
      have q := strsOf_map (cs.map fun c => (⟨#[c]⟩ : Str))
      rw [List.map_map] at q
      rw [show (cs.map fun c : Nat => PV.str ⟨#[c]⟩) = cs.map (PV.str ∘ fun c => (⟨#[c]⟩ : Str)) from rfl, q]
      simp only
      have len : ((cs.map fun c => (⟨#[c]⟩ : Str)).map (·.length)).sum + (cs.map fun c => (⟨#[c]⟩ : Str)).length * ("" : Str).length ≤ 16777216 := by
        have e1 : ∀ l : List Nat, ((l.map fun c => (⟨#[c]⟩ : Str)).map (·.length)).sum = l.length := fun l => by
          induction l with
          | nil => rfl
          | cons a r ih =>
            rw [List.map_cons, List.map_cons, List.sum_cons, ih, List.length_cons]
            show 1 + r.length = _
            omega
        rw [e1, show ("" : Str).length = 0 from rfl, Nat.mul_zero]
        omega
      rw [if_pos len, joined]
    have b : g__law_name ⟨[some (.bor 0), none, none], [m]⟩ = .rt (.str ⟨cs.toArray⟩) ⟨[some (.bor 0), some (.val (.str letters)), none], [m2]⟩ := by
      unfold g__law_name
      have t1 : gAsg (eC (.str "abcdefghijklmnopqrstuvwxyz")) (aName 1) ⟨[some (.bor 0), none, none], [m]⟩ = .nx ⟨[some (.bor 0), some (.val (.str letters)), none], [m]⟩ := asg_at rfl rfl
      exact (seq_nx t1).trans (seq_rt (ret_at st))
    exact congrArg endF b
  · show 1 ≤ cs.toArray.size
    rw [List.size_toArray]
    omega
  · show cs.toArray.size ≤ 8
    rw [List.size_toArray]
    omega
  · unfold PyData.strOk
    rw [Array.all_eq_true_iff_forall_mem]
    intro x hx
    exact decide_eq_true (lts_so x (h2 x (by simpa using hx)))
section
/-! ### what is told -/
abbrev ST (p : Int) (a b c : PV) (e : Option SV) : Stt := ⟨[some (.val (.int p)), some (.val a), some (.val b), some (.val c), e], []⟩
theorem tell_end {p : Int} {a b c : PV} {o : Option (Str × PV)} (ho : ∀ c v, o = some (c, v) → c ∈ kinds) {gb : Stt → Fl} (hg : q__law_told_1 = PLH.gTryR 4 m__law_kind_of gb)
    (h0 : o = none → gb (ST p a b c none) = .nx (ST p a b c none)) (h1 : ∀ cl v, o = some (cl, v) → gb (ST p a b c none) = .ex cl v (ST p a b c none)) :
    m__law_told [.val (.int p), .val a, .val b, .val c] [] = .ok (dueV o) [] := by
  show endF (g__law_told (ST p a b c none)) = _
  rw [g__law_told_eq]
  cases o with
  | none =>
    have t1 : q__law_told_1 (ST p a b c none) = .nx (ST p a b c none) := by
      rw [hg]
      exact tryR_nx (h0 rfl)
    have t2 : q__law_told_2 (ST p a b c none) = .rt .non (ST p a b c none) := ret_at rfl
    rw [seq_nx t1, seq_rt t2]
    rfl
  | some q =>
    obtain ⟨cl, v⟩ := q
    have hc := ho cl v rfl
    have t1 : q__law_told_1 (ST p a b c none) = .rt (.tup [.str cl, v]) (setV 4 (.exi cl v) (ST p a b c none)) := by
      rw [hg]
      exact tryR_ex (h1 cl v rfl) (kinds_err cl hc) (by show (4 : Nat) < 5; decide) (e_kind hc v)
    rw [seq_rt t1]
    rfl
theorem at_pick {p : Int} {a b c : PV} (k : Int) : tOf (eBin pEq (eVar 0) (eC (.int k))) (ST p a b c none) = .ok (p == k) (ST p a b c none) := eq_t rfl rfl
theorem told0 {a b c : PV} {o : Option (Str × PV)} (h : TellV (m_count_written [.val a, .val b] []) o) (ho : ∀ c v, o = some (c, v) → c ∈ kinds) : m__law_told [.val (.int 0), .val a, .val b, .val c] [] = .ok (dueV o) [] := by
  refine tell_end ho rfl (fun e => ?_) (fun cl v e => ?_)
  · subst e
    obtain ⟨v, e⟩ := h
    exact one_nx ((if_yes (at_pick 0)).trans (one_nx (dropZ (call2_ok rfl rfl e))))
  · subst e
    exact one_ex ((if_yes (at_pick 0)).trans (one_ex (drop_ex (call2_ex rfl rfl h))))
theorem told1 {a b c : PV} {o : Option (Str × PV)} (h : TellV (m_written_below [.val a, .val b, .val c] []) o) (ho : ∀ c v, o = some (c, v) → c ∈ kinds) : m__law_told [.val (.int 1), .val a, .val b, .val c] [] = .ok (dueV o) [] := by
  refine tell_end ho rfl (fun e => ?_) (fun cl v e => ?_)
  · subst e
    obtain ⟨v, e⟩ := h
    exact one_nx ((if_els (at_pick 0)).trans (one_nx ((if_yes (at_pick 1)).trans (one_nx (dropZ (call3_ok rfl rfl rfl e))))))
  · subst e
    exact one_ex ((if_els (at_pick 0)).trans (one_ex ((if_yes (at_pick 1)).trans (one_ex (drop_ex (call3_ex rfl rfl rfl h))))))
theorem told2 {a b c : PV} {o : Option (Str × PV)} (h : TellV (m_is_written [.val a, .val b, .val c] []) o) (ho : ∀ c v, o = some (c, v) → c ∈ kinds) : m__law_told [.val (.int 2), .val a, .val b, .val c] [] = .ok (dueV o) [] := by
  refine tell_end ho rfl (fun e => ?_) (fun cl v e => ?_)
  · subst e
    obtain ⟨v, e⟩ := h
    exact one_nx ((if_els (at_pick 0)).trans (one_nx ((if_els (at_pick 1)).trans (one_nx ((if_yes (at_pick 2)).trans (one_nx (dropZ (call3_ok rfl rfl rfl e))))))))
  · subst e
    exact one_ex ((if_els (at_pick 0)).trans (one_ex ((if_els (at_pick 1)).trans (one_ex ((if_yes (at_pick 2)).trans (one_ex (drop_ex (call3_ex rfl rfl rfl h))))))))
theorem told3 {a b c : PV} {o : Option (Str × PV)} (h : TellV (m_nth_written [.val a, .val b, .val c] []) o) (ho : ∀ c v, o = some (c, v) → c ∈ kinds) : m__law_told [.val (.int 3), .val a, .val b, .val c] [] = .ok (dueV o) [] := by
  refine tell_end ho rfl (fun e => ?_) (fun cl v e => ?_)
  · subst e
    obtain ⟨v, e⟩ := h
    exact one_nx ((if_els (at_pick 0)).trans (one_nx ((if_els (at_pick 1)).trans (one_nx ((if_els (at_pick 2)).trans (one_nx (dropZ (call3_ok rfl rfl rfl e))))))))
  · subst e
    exact one_ex ((if_els (at_pick 0)).trans (one_ex ((if_els (at_pick 1)).trans (one_ex ((if_els (at_pick 2)).trans (one_ex (drop_ex (call3_ex rfl rfl rfl h))))))))
theorem aE_kind {z : Str} {o : Option (Str × PV)} (ho : ∀ c v, o = some (c, v) → c ∈ kinds) : ∀ c v, aE z o = some (c, v) → c ∈ kinds := by
  intro c v e
  unfold aE at e
  split at e
  · exact ho c v e
  · cases e
    decide
theorem nbE_kind {x N : Int} : ∀ c v, nbE x N = some (c, v) → c ∈ kinds := by
  intro c v e
  unfold nbE at e
  split at e
  · cases e
  · cases e
    decide
theorem no_kind : ∀ (c : Str) (v : PV), (none : Option (Str × PV)) = some (c, v) → c ∈ kinds := fun _ _ e => nomatch e
theorem dd_due {z : Str} (so : PyData.strOk z = true) {o : Option (Str × PV)} (h : Dd (dueV o) 2) : Dd (dueV (aE z o)) 2 := by
  unfold aE
  split
  · exact h
  · refine Dd.tup fun p hp => ?_
    simp only [List.mem_cons, List.not_mem_nil, or_false] at hp
    rcases hp with rfl | rfl
    · exact (Dd.str (by decide +kernel)).mono (by decide)
    · exact (Dd.str so).mono (by decide)
theorem dd_nb {x N : Int} : Dd (dueV (nbE x N)) 2 := by
  unfold nbE
  split
  · exact Dd.non.mono (by decide)
  · refine Dd.tup fun p hp => ?_
    simp only [List.mem_cons, List.not_mem_nil, or_false] at hp
    rcases hp with rfl | rfl
    · exact (Dd.str (by decide +kernel)).mono (by decide)
    · exact (Dd.int x).mono (by decide)
end
section
variable {ns : List Int} {m : MO} {k : Nat} {t : Int} {a3 a4 a5 a6 a7 a8 a9 a10 : Option SV}
theorem e_lap (hp : Src k m) (hk : k < 2 ^ 20) : ∃ m' b3 b4 b5 b6 b7 b8 b9 b10, l_law_1c ⟨[some (.val (scrOf ns)), some (.own m), some (.val (.int t)), a3, a4, a5, a6, a7, a8, a9, a10, none, none], []⟩ = .nx ⟨[some (.val (scrOf ns)), some (.own m'), some (.val (.int t)), b3, b4, b5, b6, b7, b8, b9, b10, none, none], []⟩ ∧ Src (k + 300) m' := by
  obtain ⟨d1, m1, e1, a1, z1, p1⟩ := draw3 hp (by omega) 9 (by decide) (by decide)
  obtain ⟨n, m2, e2, a2, z2, p2⟩ := draw3 p1 (by omega) 4 (by decide) (by decide)
  have t1 : l_law_1c_s1 ⟨[some (.val (scrOf ns)), some (.own m), some (.val (.int t)), a3, a4, a5, a6, a7, a8, a9, a10, none, none], []⟩ = .nx ⟨[some (.val (scrOf ns)), some (.own m2), some (.val (.int t)), some (.val (.int (1 + d1))), some (.val (.int n)), a5, a6, a7, a8, a9, a10, none, none], []⟩ :=
    asgG_at (s1 := ⟨[some (.val (scrOf ns)), some (.own m2), some (.val (.int t)), a3, a4, a5, a6, a7, a8, a9, a10, none, none], []⟩) (p := .tup [.int (1 + d1), .int n]) (tup_at (acons_at (bin_at2 rfl (dro (m1 := m) rfl rfl e1) rfl) (acons_at (dro (m1 := m1) rfl rfl e2) rfl)) (by show (2 : Nat) ≤ 16777216; decide)) rfl
  obtain ⟨o, m3, e3, hno, p3⟩ := e_name p2 (by omega)
  have t2 : l_law_1c_s2 ⟨[some (.val (scrOf ns)), some (.own m2), some (.val (.int t)), some (.val (.int (1 + d1))), some (.val (.int n)), a5, a6, a7, a8, a9, a10, none, none], []⟩ = .nx ⟨[some (.val (scrOf ns)), some (.own m3), some (.val (.int t)), some (.val (.int (1 + d1))), some (.val (.int n)), some (.val (.str o)), a6, a7, a8, a9, a10, none, none], []⟩ := asg_at (cl0 e3) rfl
  obtain ⟨out, s2, e4, ⟨xs, m4, ho, hxs, p4, rfl⟩, hlen⟩ := compL_invB (vs := [11]) (a := l_law_2c) (fe := l_law_2e) 6 (fun acc s => ∃ xs m4, acc = xs.map Stm.pv ∧ (∀ x ∈ xs, Sml (1 + d1) 20 x) ∧ Src (k + 1 + 1 + 20 + 18 * acc.length) m4 ∧ s = ⟨[some (.val (scrOf ns)), some (.own m4), some (.val (.int t)), some (.val (.int (1 + d1))), some (.val (.int n)), some (.val (.str o)), a6, a7, a8, a9, a10, none, none], []⟩) (rng 0 n.toNat) [] ⟨[some (.val (scrOf ns)), some (.own m3), some (.val (.int t)), some (.val (.int (1 + d1))), some (.val (.int n)), some (.val (.str o)), a6, a7, a8, a9, a10, none, none], []⟩ (by rw [rng_length, List.length_nil]; omega) (by rw [rng_length, List.length_nil]; omega) ⟨[], m3, rfl, (fun x h => nomatch h), p3.mono (by omega), rfl⟩ (by
    rintro p acc s hacc ⟨xs, m4, rfl, hx, p4, rfl⟩
    obtain ⟨x, m5, e5, hx5, p5⟩ := e_statement hno p4 (by omega) (1 + d1) (by omega) (by omega)
    refine ⟨⟨[some (.val (scrOf ns)), some (.own m4), some (.val (.int t)), some (.val (.int (1 + d1))), some (.val (.int n)), some (.val (.str o)), a6, a7, a8, a9, a10, some (.val (p)), none], []⟩, rfl, x.pv, ⟨[some (.val (scrOf ns)), some (.own m5), some (.val (.int t)), some (.val (.int (1 + d1))), some (.val (.int n)), some (.val (.str o)), a6, a7, a8, a9, a10, some (.val (p)), none], []⟩, ?_, xs ++ [x], m5, by rw [List.map_append]; rfl, ?_, p5.mono (by rw [List.length_append, List.length_singleton]; omega), rfl⟩
    · unfold l_law_2e
      exact cl2 (f1 := eVar 3) (f2 := frz (oLst (aCons (eC (.str "x")) (aCons (eVar 5) aNil)))) rfl (PM.lst_at (l := [.str "x", .str o]) rfl (by show (2 : Nat) ≤ 16777216; decide)) e5
    · intro y hy
      rcases List.mem_append.mp hy with hy | hy
      · exact hx y hy
      · rw [List.mem_singleton] at hy
        subst hy
        exact hx5)
  subst ho
  rw [rng_length, List.length_nil, List.length_map] at hlen
  rw [List.length_map] at p4
  have hl : xs.length ≤ 6 := by omega
  have W := wh_of hxs (Int.le_refl (1 + d1)) (by omega) (by omega)
  have t3 : l_law_1c_s3 ⟨[some (.val (scrOf ns)), some (.own m3), some (.val (.int t)), some (.val (.int (1 + d1))), some (.val (.int n)), some (.val (.str o)), a6, a7, a8, a9, a10, none, none], []⟩ = .nx ⟨[some (.val (scrOf ns)), some (.own m4), some (.val (.int t)), some (.val (.int (1 + d1))), some (.val (.int n)), some (.val (.str o)), some (.val (kern (1 + d1) (xs.map Stm.pv) (([] : List Int).map PV.int))), a7, a8, a9, a10, none, none], []⟩ := by
    unfold l_law_1c_s3
    exact asg_at (s1 := ⟨[some (.val (scrOf ns)), some (.own m4), some (.val (.int t)), some (.val (.int (1 + d1))), some (.val (.int n)), some (.val (.str o)), a6, a7, a8, a9, a10, none, none], []⟩) (make_d (xs := xs) (acons_at (s1 := ⟨[some (.val (scrOf ns)), some (.own m3), some (.val (.int t)), some (.val (.int (1 + d1))), some (.val (.int n)), some (.val (.str o)), a6, a7, a8, a9, a10, none, none], []⟩) rfl (acons_at (comp_at (rng1 rfl) e4 rfl) rfl)) (by omega) W.ox) rfl
  obtain ⟨o2, m5, e5, hno2, p5⟩ := e_name p4 (by omega)
  have t4 : l_law_1c_s4 ⟨[some (.val (scrOf ns)), some (.own m4), some (.val (.int t)), some (.val (.int (1 + d1))), some (.val (.int n)), some (.val (.str o)), some (.val (kern (1 + d1) (xs.map Stm.pv) (([] : List Int).map PV.int))), a7, a8, a9, a10, none, none], []⟩ = .nx ⟨[some (.val (scrOf ns)), some (.own m5), some (.val (.int t)), some (.val (.int (1 + d1))), some (.val (.int n)), some (.val (.str o)), some (.val (kern (1 + d1) (xs.map Stm.pv) (([] : List Int).map PV.int))), some (.val (.lst [.str "x", .str o, .str o2, .str "longname", .str "", .str "X", .str "x1", .str "abcdefghi", .str "x y", .str "a-b"])), a8, a9, a10, none, none], []⟩ :=
    asg_at (s1 := ⟨[some (.val (scrOf ns)), some (.own m5), some (.val (.int t)), some (.val (.int (1 + d1))), some (.val (.int n)), some (.val (.str o)), some (.val (kern (1 + d1) (xs.map Stm.pv) (([] : List Int).map PV.int))), a7, a8, a9, a10, none, none], []⟩) (PM.lst_at (acons_at (s1 := ⟨[some (.val (scrOf ns)), some (.own m4), some (.val (.int t)), some (.val (.int (1 + d1))), some (.val (.int n)), some (.val (.str o)), some (.val (kern (1 + d1) (xs.map Stm.pv) (([] : List Int).map PV.int))), a7, a8, a9, a10, none, none], []⟩) rfl (acons_at (s1 := ⟨[some (.val (scrOf ns)), some (.own m4), some (.val (.int t)), some (.val (.int (1 + d1))), some (.val (.int n)), some (.val (.str o)), some (.val (kern (1 + d1) (xs.map Stm.pv) (([] : List Int).map PV.int))), a7, a8, a9, a10, none, none], []⟩) rfl (acons_at (cl0 e5) (l := [.str "longname", .str "", .str "X", .str "x1", .str "abcdefghi", .str "x y", .str "a-b"]) rfl))) (by show (10 : Nat) ≤ 16777216; decide)) rfl
  obtain ⟨d6, m6, e6, a6, z6, p6⟩ := draw3 p5 (by omega) 10 (by decide) (by decide)
  obtain ⟨q, hq, eq6⟩ := at_mem [.str "x", .str o, .str o2, .str "longname", .str "", .str "X", .str "x1", .str "abcdefghi", .str "x y", .str "a-b"] d6 a6 (by show d6 < 10; omega)
  obtain ⟨z, rfl, zl, so⟩ : ∃ z : Str, q = .str z ∧ z.length ≤ 1000 ∧ PyData.strOk z = true := by
    simp only [List.mem_cons, List.not_mem_nil, or_false] at hq
    rcases hq with h | h | h | h | h | h | h | h | h | h
    · exact ⟨_, h, by decide, by decide +kernel⟩
    · exact ⟨_, h, by have := hno.arr.l1; omega, hno.so⟩
    · exact ⟨_, h, by have := hno2.arr.l1; omega, hno2.so⟩
    all_goals exact ⟨_, h, by decide, by decide +kernel⟩
  have t5 : l_law_1c_s5 ⟨[some (.val (scrOf ns)), some (.own m5), some (.val (.int t)), some (.val (.int (1 + d1))), some (.val (.int n)), some (.val (.str o)), some (.val (kern (1 + d1) (xs.map Stm.pv) (([] : List Int).map PV.int))), some (.val (.lst [.str "x", .str o, .str o2, .str "longname", .str "", .str "X", .str "x1", .str "abcdefghi", .str "x y", .str "a-b"])), a8, a9, a10, none, none], []⟩ = .nx ⟨[some (.val (scrOf ns)), some (.own m6), some (.val (.int t)), some (.val (.int (1 + d1))), some (.val (.int n)), some (.val (.str o)), some (.val (kern (1 + d1) (xs.map Stm.pv) (([] : List Int).map PV.int))), some (.val (.lst [.str "x", .str o, .str o2, .str "longname", .str "", .str "X", .str "x1", .str "abcdefghi", .str "x y", .str "a-b"])), some (.val (.str z)), a9, a10, none, none], []⟩ := asg_at (bin_at2 (s1 := ⟨[some (.val (scrOf ns)), some (.own m5), some (.val (.int t)), some (.val (.int (1 + d1))), some (.val (.int n)), some (.val (.str o)), some (.val (kern (1 + d1) (xs.map Stm.pv) (([] : List Int).map PV.int))), some (.val (.lst [.str "x", .str o, .str o2, .str "longname", .str "", .str "X", .str "x1", .str "abcdefghi", .str "x y", .str "a-b"])), a8, a9, a10, none, none], []⟩) rfl (dro (m1 := m5) rfl rfl e6) eq6) rfl
  obtain ⟨d7, m6b, e7, a7', z7, p7⟩ := draw3 p6 (by omega) 12 (by decide) (by decide)
  obtain ⟨w, hw, m7, p8, e8⟩ := picko (m := m6b) (x0 := some (.val (scrOf ns))) p7 (by omega) [.int d7, .int (-1), .int (10 ^ 30), .int (0 - 10 ^ 30)] 4 rfl (by decide) (by decide)
    (fl := aCons (eCall PM.m__law_draw (avN 2 (lSl 1 (lPv (eC (.int 12)) lNil)))) (aCons (eUn pNeg (eC (.int 1))) (aCons (eBin pPow (eC (.int 10)) (eC (.int 30))) (aCons (eBin pSub (eC (.int 0)) (eBin pPow (eC (.int 10)) (eC (.int 30)))) aNil))))
    (st := ⟨[some (.val (scrOf ns)), some (.own m6), some (.val (.int t)), some (.val (.int (1 + d1))), some (.val (.int n)), some (.val (.str o)), some (.val (kern (1 + d1) (xs.map Stm.pv) (([] : List Int).map PV.int))), some (.val (.lst [.str "x", .str o, .str o2, .str "longname", .str "", .str "X", .str "x1", .str "abcdefghi", .str "x y", .str "a-b"])), some (.val (.str z)), a9, a10, none, none], []⟩) (acons_at (dro rfl rfl e7) (acons_at (s1 := ⟨[some (.val (scrOf ns)), some (.own m6b), some (.val (.int t)), some (.val (.int (1 + d1))), some (.val (.int n)), some (.val (.str o)), some (.val (kern (1 + d1) (xs.map Stm.pv) (([] : List Int).map PV.int))), some (.val (.lst [.str "x", .str o, .str o2, .str "longname", .str "", .str "X", .str "x1", .str "abcdefghi", .str "x y", .str "a-b"])), some (.val (.str z)), a9, a10, none, none], []⟩) rfl (acons_at (bin_at rfl rfl p30) (acons_at (bin_at (p := .int 0) (q := .int (10 ^ 30)) rfl (bin_at rfl rfl p30) rfl) rfl))))
  obtain ⟨x, rfl⟩ : ∃ x : Int, w = .int x := by
    simp only [List.mem_cons, List.not_mem_nil, or_false] at hw
    rcases hw with h | h | h | h <;> exact ⟨_, h⟩
  have t6 : l_law_1c_s6 ⟨[some (.val (scrOf ns)), some (.own m6), some (.val (.int t)), some (.val (.int (1 + d1))), some (.val (.int n)), some (.val (.str o)), some (.val (kern (1 + d1) (xs.map Stm.pv) (([] : List Int).map PV.int))), some (.val (.lst [.str "x", .str o, .str o2, .str "longname", .str "", .str "X", .str "x1", .str "abcdefghi", .str "x y", .str "a-b"])), some (.val (.str z)), a9, a10, none, none], []⟩ = .nx ⟨[some (.val (scrOf ns)), some (.own m7), some (.val (.int t)), some (.val (.int (1 + d1))), some (.val (.int n)), some (.val (.str o)), some (.val (kern (1 + d1) (xs.map Stm.pv) (([] : List Int).map PV.int))), some (.val (.lst [.str "x", .str o, .str o2, .str "longname", .str "", .str "X", .str "x1", .str "abcdefghi", .str "x y", .str "a-b"])), some (.val (.str z)), some (.val (.int x)), a10, none, none], []⟩ := asg_at e8 rfl
  have e9 : eIf (tTru (eCall m__law_is_name (avN 1 (lPv (eVar 8) lNil)))) (eC .non) (eTup (aCons (eC (.str "InvalidArray")) (aCons (eVar 8) aNil))) ⟨[some (.val (scrOf ns)), some (.own m7), some (.val (.int t)), some (.val (.int (1 + d1))), some (.val (.int n)), some (.val (.str o)), some (.val (kern (1 + d1) (xs.map Stm.pv) (([] : List Int).map PV.int))), some (.val (.lst [.str "x", .str o, .str o2, .str "longname", .str "", .str "X", .str "x1", .str "abcdefghi", .str "x y", .str "a-b"])), some (.val (.str z)), some (.val (.int x)), a10, none, none], []⟩ = .ok (dueV (aE z none)) ⟨[some (.val (scrOf ns)), some (.own m7), some (.val (.int t)), some (.val (.int (1 + d1))), some (.val (.int n)), some (.val (.str o)), some (.val (kern (1 + d1) (xs.map Stm.pv) (([] : List Int).map PV.int))), some (.val (.lst [.str "x", .str o, .str o2, .str "longname", .str "", .str "X", .str "x1", .str "abcdefghi", .str "x y", .str "a-b"])), some (.val (.str z)), some (.val (.int x)), a10, none, none], []⟩ := by
    have c := tTru_bl (call1_ok (f0 := eVar 8) (st := ⟨[some (.val (scrOf ns)), some (.own m7), some (.val (.int t)), some (.val (.int (1 + d1))), some (.val (.int n)), some (.val (.str o)), some (.val (kern (1 + d1) (xs.map Stm.pv) (([] : List Int).map PV.int))), some (.val (.lst [.str "x", .str o, .str o2, .str "longname", .str "", .str "X", .str "x1", .str "abcdefghi", .str "x y", .str "a-b"])), some (.val (.str z)), some (.val (.int x)), a10, none, none], []⟩) rfl (e_isname z zl so))
    unfold aE
    by_cases g : nmB z = true
    · rw [g] at c
      rw [if_pos g]
      exact eif_yes c rfl
    · rw [if_neg g]
      rw [Bool.not_eq_true] at g
      rw [g] at c
      exact eif_no c (tup_at (l := [.str "InvalidArray", .str z]) rfl (by show (2 : Nat) ≤ 16777216; decide))
  have t7 : l_law_1c_s7 ⟨[some (.val (scrOf ns)), some (.own m7), some (.val (.int t)), some (.val (.int (1 + d1))), some (.val (.int n)), some (.val (.str o)), some (.val (kern (1 + d1) (xs.map Stm.pv) (([] : List Int).map PV.int))), some (.val (.lst [.str "x", .str o, .str o2, .str "longname", .str "", .str "X", .str "x1", .str "abcdefghi", .str "x y", .str "a-b"])), some (.val (.str z)), some (.val (.int x)), a10, none, none], []⟩ = .nx ⟨[some (.val (scrOf ns)), some (.own m7), some (.val (.int t)), some (.val (.int (1 + d1))), some (.val (.int n)), some (.val (.str o)), some (.val (kern (1 + d1) (xs.map Stm.pv) (([] : List Int).map PV.int))), some (.val (.lst [.str "x", .str o, .str o2, .str "longname", .str "", .str "X", .str "x1", .str "abcdefghi", .str "x y", .str "a-b"])), some (.val (.str z)), some (.val (.int x)), some (.val (dueV (aE z none))), none, none], []⟩ := asg_at e9 rfl
  -- what is told of the first three
  have tell : ∀ p : Nat, p < 3 → m__law_told [.val (.int ((0 : Int) + (p : Int))), .val (kern (1 + d1) (xs.map Stm.pv) (([] : List Int).map PV.int)), .val (.str z), .val (.int x)] [] = .ok (dueV (aE z none)) [] := by
    intro p hp3
    have : p = 0 ∨ p = 1 ∨ p = 2 := by omega
    rcases this with rfl | rfl | rfl
    · exact told0 (t_cw W zl so) (aE_kind no_kind)
    · exact told1 (t_wb W zl so) (aE_kind no_kind)
    · exact told2 (t_iw W zl so) (aE_kind no_kind)
  have ec := compL_M (vs := [12]) (a := l_law_3c) (fe := l_law_3e) (s := ⟨[some (.val (scrOf ns)), some (.own m7), some (.val (.int t)), some (.val (.int (1 + d1))), some (.val (.int n)), some (.val (.str o)), some (.val (kern (1 + d1) (xs.map Stm.pv) (([] : List Int).map PV.int))), some (.val (.lst [.str "x", .str o, .str o2, .str "longname", .str "", .str "X", .str "x1", .str "abcdefghi", .str "x y", .str "a-b"])), some (.val (.str z)), some (.val (.int x)), some (.val (dueV (aE z none))), none, none], []⟩) (fun i : Nat => PV.int ((0 : Int) + (i : Int))) (fun _ => dueV (aE z none)) (List.range 3) (by decide) (fun i hi => by
    refine ⟨⟨[some (.val (scrOf ns)), some (.own m7), some (.val (.int t)), some (.val (.int (1 + d1))), some (.val (.int n)), some (.val (.str o)), some (.val (kern (1 + d1) (xs.map Stm.pv) (([] : List Int).map PV.int))), some (.val (.lst [.str "x", .str o, .str o2, .str "longname", .str "", .str "X", .str "x1", .str "abcdefghi", .str "x y", .str "a-b"])), some (.val (.str z)), some (.val (.int x)), some (.val (dueV (aE z none))), none, some (.val (.int ((0 : Int) + (i : Int))))], []⟩, rfl, ⟨[some (.val (scrOf ns)), some (.own m7), some (.val (.int t)), some (.val (.int (1 + d1))), some (.val (.int n)), some (.val (.str o)), some (.val (kern (1 + d1) (xs.map Stm.pv) (([] : List Int).map PV.int))), some (.val (.lst [.str "x", .str o, .str o2, .str "longname", .str "", .str "X", .str "x1", .str "abcdefghi", .str "x y", .str "a-b"])), some (.val (.str z)), some (.val (.int x)), some (.val (dueV (aE z none))), none, some (.val (.int ((0 : Int) + (i : Int))))], []⟩, call4_ok rfl rfl rfl rfl (tell i (List.mem_range.mp hi)), rfl⟩)
  have d2 : Dd (dueV (aE z none)) 2 := dd_due so (Dd.non.mono (by decide))
  have eq8 : pEqB (.lst [dueV (aE z none), dueV (aE z none), dueV (aE z none)]) (.lst [dueV (aE z none), dueV (aE z none), dueV (aE z none)]) = some true := Dd.eq_self (k := 3) (Dd.lst fun p hp => by
    simp only [List.mem_cons, List.not_mem_nil, or_false] at hp
    rcases hp with rfl | rfl | rfl <;> exact d2) (by decide)
  have em : pMul (.lst [dueV (aE z none)]) (.int 3) = some (.lst [dueV (aE z none), dueV (aE z none), dueV (aE z none)]) := by
    show (if -(2 ^ 63) ≤ (3 : Int) ∧ (3 : Int) < 2 ^ 63 ∧ [dueV (aE z none)].length * (3 : Int).toNat ≤ 16777216 then some (PV.lst (List.replicate (3 : Int).toNat [dueV (aE z none)]).flatten) else none) = _
    rw [if_pos ⟨by decide, by decide, by show 1 * 3 ≤ 16777216; decide⟩]
    rfl
  have t8 : l_law_1c_s8 ⟨[some (.val (scrOf ns)), some (.own m7), some (.val (.int t)), some (.val (.int (1 + d1))), some (.val (.int n)), some (.val (.str o)), some (.val (kern (1 + d1) (xs.map Stm.pv) (([] : List Int).map PV.int))), some (.val (.lst [.str "x", .str o, .str o2, .str "longname", .str "", .str "X", .str "x1", .str "abcdefghi", .str "x y", .str "a-b"])), some (.val (.str z)), some (.val (.int x)), some (.val (dueV (aE z none))), none, none], []⟩ = .nx ⟨[some (.val (scrOf ns)), some (.own m7), some (.val (.int t)), some (.val (.int (1 + d1))), some (.val (.int n)), some (.val (.str o)), some (.val (kern (1 + d1) (xs.map Stm.pv) (([] : List Int).map PV.int))), some (.val (.lst [.str "x", .str o, .str o2, .str "longname", .str "", .str "X", .str "x1", .str "abcdefghi", .str "x y", .str "a-b"])), some (.val (.str z)), some (.val (.int x)), some (.val (dueV (aE z none))), none, none], []⟩ :=
    if_no (ne_no (p := .lst [dueV (aE z none), dueV (aE z none), dueV (aE z none)]) (q := .lst [dueV (aE z none), dueV (aE z none), dueV (aE z none)]) (comp_at (l := (List.range 3).map fun i : Nat => PV.int ((0 : Int) + (i : Int))) rfl ec rfl)
      (bin_at (p := .lst [dueV (aE z none)]) (q := .int 3) (PM.lst_at (l := [dueV (aE z none)]) rfl (by show (1 : Nat) ≤ 16777216; decide)) rfl em) eq8)
  -- the number
  obtain ⟨N, hN⟩ : ∃ N : Nat, nmB z = true → m_count_written [.val (kern (1 + d1) (xs.map Stm.pv) (([] : List Int).map PV.int)), .val (.str z)] [] = .ok (.int N) [] := by
    by_cases g : nmB z = true
    · obtain ⟨j, e, _⟩ := e_count_written (bs := []) W (nm_of g so)
      exact ⟨j, fun _ => e⟩
    · exact ⟨0, fun h => absurd h g⟩
  have en := is_non (f := eVar 10) (a := aE z none) (st := ⟨[some (.val (scrOf ns)), some (.own m7), some (.val (.int t)), some (.val (.int (1 + d1))), some (.val (.int n)), some (.val (.str o)), some (.val (kern (1 + d1) (xs.map Stm.pv) (([] : List Int).map PV.int))), some (.val (.lst [.str "x", .str o, .str o2, .str "longname", .str "", .str "X", .str "x1", .str "abcdefghi", .str "x y", .str "a-b"])), some (.val (.str z)), some (.val (.int x)), some (.val (dueV (aE z none))), none, none], []⟩) rfl
  have t9 : l_law_1c_s9 ⟨[some (.val (scrOf ns)), some (.own m7), some (.val (.int t)), some (.val (.int (1 + d1))), some (.val (.int n)), some (.val (.str o)), some (.val (kern (1 + d1) (xs.map Stm.pv) (([] : List Int).map PV.int))), some (.val (.lst [.str "x", .str o, .str o2, .str "longname", .str "", .str "X", .str "x1", .str "abcdefghi", .str "x y", .str "a-b"])), some (.val (.str z)), some (.val (.int x)), some (.val (dueV (aE z none))), none, none], []⟩ = .nx ⟨[some (.val (scrOf ns)), some (.own m7), some (.val (.int t)), some (.val (.int (1 + d1))), some (.val (.int n)), some (.val (.str o)), some (.val (kern (1 + d1) (xs.map Stm.pv) (([] : List Int).map PV.int))), some (.val (.lst [.str "x", .str o, .str o2, .str "longname", .str "", .str "X", .str "x1", .str "abcdefghi", .str "x y", .str "a-b"])), some (.val (.str z)), some (.val (.int x)), some (.val (dueV (aE z (nbE x N)))), none, none], []⟩ := by
    unfold l_law_1c_s9
    by_cases g : nmB z = true
    · have hg : (aE z none).isNone = true := by unfold aE; rw [if_pos g]; rfl
      rw [hg] at en
      have ch := nt_z (tOf_z (chainLt (fa := eC (.int 0)) (fb := eVar 9) (fc := eCall PM.m_count_written (avN 2 (lPv (eVar 6) (lPv (eVar 8) lNil)))) (i := 0) (j := x) (k := (N : Int)) (st := ⟨[some (.val (scrOf ns)), some (.own m7), some (.val (.int t)), some (.val (.int (1 + d1))), some (.val (.int n)), some (.val (.str o)), some (.val (kern (1 + d1) (xs.map Stm.pv) (([] : List Int).map PV.int))), some (.val (.lst [.str "x", .str o, .str o2, .str "longname", .str "", .str "X", .str "x1", .str "abcdefghi", .str "x y", .str "a-b"])), some (.val (.str z)), some (.val (.int x)), some (.val (dueV (aE z none))), none, none], []⟩) rfl rfl (call2_ok rfl rfl (hN g))))
      have an := an_t en ch
      have g0 : aE z (nbE x N) = nbE x N := by unfold aE; rw [if_pos g]
      by_cases hx : 0 ≤ x ∧ x < (N : Int)
      · rw [decide_eq_true hx] at an
        have g1 : nbE x N = aE z none := by unfold nbE aE; rw [if_pos hx, if_pos g]
        rw [g0, g1]
        exact if_no an
      · rw [decide_eq_false hx] at an
        have g1 : nbE x N = some ((("InvalidNumber" : Str), PV.int x)) := by unfold nbE; rw [if_neg hx]
        rw [g0, g1]
        exact (if_yes an).trans (one_nx (asg_at (tup_at (l := [.str "InvalidNumber", .int x]) rfl (by show (2 : Nat) ≤ 16777216; decide)) rfl))
    · have hg : (aE z none).isNone = false := by unfold aE; rw [if_neg g]; rfl
      rw [hg] at en
      have e2 : aE z (nbE x N) = aE z none := by unfold aE; rw [if_neg g, if_neg g]
      rw [e2]
      refine if_no ?_
      unfold tAn
      rw [en]
      rfl
  have T3 : m__law_told [.val (.int 3), .val (kern (1 + d1) (xs.map Stm.pv) (([] : List Int).map PV.int)), .val (.str z), .val (.int x)] [] = .ok (dueV (aE z (nbE x N))) [] := told3 (t_nw W zl so hN) (aE_kind nbE_kind)
  have t10 : l_law_1c_s10 ⟨[some (.val (scrOf ns)), some (.own m7), some (.val (.int t)), some (.val (.int (1 + d1))), some (.val (.int n)), some (.val (.str o)), some (.val (kern (1 + d1) (xs.map Stm.pv) (([] : List Int).map PV.int))), some (.val (.lst [.str "x", .str o, .str o2, .str "longname", .str "", .str "X", .str "x1", .str "abcdefghi", .str "x y", .str "a-b"])), some (.val (.str z)), some (.val (.int x)), some (.val (dueV (aE z (nbE x N)))), none, none], []⟩ = .nx ⟨[some (.val (scrOf ns)), some (.own m7), some (.val (.int t)), some (.val (.int (1 + d1))), some (.val (.int n)), some (.val (.str o)), some (.val (kern (1 + d1) (xs.map Stm.pv) (([] : List Int).map PV.int))), some (.val (.lst [.str "x", .str o, .str o2, .str "longname", .str "", .str "X", .str "x1", .str "abcdefghi", .str "x y", .str "a-b"])), some (.val (.str z)), some (.val (.int x)), some (.val (dueV (aE z (nbE x N)))), none, none], []⟩ :=
    if_no (ne_no (p := dueV (aE z (nbE x N))) (q := dueV (aE z (nbE x N))) (call4_ok rfl rfl rfl rfl T3) rfl (Dd.eq_self (k := 2) (dd_due so dd_nb) (by decide)))
  refine ⟨m7, some (.val (.int (1 + d1))), some (.val (.int n)), some (.val (.str o)), some (.val (kern (1 + d1) (xs.map Stm.pv) (([] : List Int).map PV.int))), some (.val (.lst [.str "x", .str o, .str o2, .str "longname", .str "", .str "X", .str "x1", .str "abcdefghi", .str "x y", .str "a-b"])), some (.val (.str z)), some (.val (.int x)), some (.val (dueV (aE z (nbE x N)))), ?_, p8.mono (by omega)⟩
  unfold l_law_1c
  exact (seq_nx t1).trans ((seq_nx t2).trans ((seq_nx t3).trans ((seq_nx t4).trans ((seq_nx t5).trans ((seq_nx t6).trans ((seq_nx t7).trans ((seq_nx t8).trans ((seq_nx t9).trans (one_nx t10)))))))))
end
theorem asgO_at {st s1 s2 : Stt} {i : Nat} {fo : Stt → Res MO} {m : MO} (h : fo st = .ok m s1) (hi : i < s1.ro.length) (hs : setO i m s1 = s2) : gAsgO i fo st = .nx s2 := by
  unfold gAsgO
  rw [h]
  show (if i < s1.ro.length then Fl.nx (setO i m s1) else _) = _
  rw [if_pos hi, hs]
theorem law_true (ns : List Int) (hl : ns.length ≤ 63) : m_law [.val (scrOf ns)] [] = .ok (.bl true) [] := by
  obtain ⟨m0, e0, p0⟩ := e_source ns hl
  have t1 : q_law_1 ⟨[some (.val (scrOf ns)), none, none, none, none, none, none, none, none, none, none, none, none], []⟩ = .nx ⟨[some (.val (scrOf ns)), some (.own m0), none, none, none, none, none, none, none, none, none, none, none], []⟩ := by
    unfold q_law_1
    refine asgO_at (m := m0) (s1 := ⟨[some (.val (scrOf ns)), none, none, none, none, none, none, none, none, none, none, none, none], []⟩) ?_ (by show (1 : Nat) < 13; decide) rfl
    simp only [oCall, avN, lPv, lNil, show eVar 0 ⟨[some (.val (scrOf ns)), none, none, none, none, none, none, none, none, none, none, none, none], []⟩ = .ok (scrOf ns) ⟨[some (.val (scrOf ns)), none, none, none, none, none, none, none, none, none, none, none, none], []⟩ from rfl, Res.bind_ok, List.length_cons, List.length_nil, Nat.reduceAdd, if_true, lowerA, distinct, getAll, setAll, e0]
  obtain ⟨L, hL, eL⟩ := laps hl (st := ⟨[some (.val (scrOf ns)), some (.own m0), none, none, none, none, none, none, none, none, none, none, none], []⟩) rfl
  obtain ⟨st, e2, m', a2, a3, a4, a5, a6, a7, a8, a9, a10, rfl, _⟩ := forL_inv (a := l_law_1b) (b := l_law_1c) (fun i st => ∃ m' a2 a3 a4 a5 a6 a7 a8 a9 a10, st = ⟨[some (.val (scrOf ns)), some (.own m'), a2, a3, a4, a5, a6, a7, a8, a9, a10, none, none], []⟩ ∧ Src (300 * i) m') (rng 0 L) 0 ⟨[some (.val (scrOf ns)), some (.own m0), none, none, none, none, none, none, none, none, none, none, none], []⟩ ⟨m0, none, none, none, none, none, none, none, none, none, rfl, p0⟩ (by
    rintro i p st hpi ⟨m1, a2, a3, a4, a5, a6, a7, a8, a9, a10, rfl, p1⟩
    obtain ⟨hi, rfl⟩ := rng_at' hpi
    rw [Nat.zero_add] at p1 ⊢
    obtain ⟨m2, b3, b4, b5, b6, b7, b8, b9, b10, e, p2⟩ := e_lap (ns := ns) (t := 0 + (i : Int)) (a3 := a3) (a4 := a4) (a5 := a5) (a6 := a6) (a7 := a7) (a8 := a8) (a9 := a9) (a10 := a10) p1 (by omega)
    exact ⟨⟨[some (.val (scrOf ns)), some (.own m1), some (.val (.int (0 + (i : Int)))), a3, a4, a5, a6, a7, a8, a9, a10, none, none], []⟩, rfl, _, .inl e, m2, _, _, _, _, _, _, _, _, _, rfl, p2.mono (by omega)⟩)
  have t2 : q_law_2 ⟨[some (.val (scrOf ns)), some (.own m0), none, none, none, none, none, none, none, none, none, none, none], []⟩ = .nx ⟨[some (.val (scrOf ns)), some (.own m'), a2, a3, a4, a5, a6, a7, a8, a9, a10, none, none], []⟩ := (for_atZ eL).trans e2
  have W : WH 2 MM [] := wh_of (t := 2) (fun x h => nomatch h) (Int.le_refl 2) (by decide) (by decide)
  have hx : Nm "x" := nm_x
  obtain ⟨j, ej, hj⟩ := e_count_written (bs := []) W hx
  have j0 : j = 0 := hj.one (Cnt.none fun z ⟨x, h, _⟩ => nomatch h)
  subst j0
  have T : m__law_told [.val (.int 3), .val (kern 2 (([] : List Stm).map Stm.pv) (([] : List Int).map PV.int)), .val (.str "x"), .val (.int 0)] [] = .ok (dueV (some ("InvalidNumber", .int 0))) [] := by
    have k := t_nw (bs := []) (z := "x") (c := 0) (N := 0) W (by decide) (by decide +kernel) (fun _ => ej)
    have e : aE "x" (nbE 0 ((0 : Nat) : Int)) = some ((("InvalidNumber" : Str), PV.int 0)) := by
      unfold aE
      rw [if_pos (nmB_of hx)]
      unfold nbE
      rw [if_neg (by decide)]
    rw [e] at k
    exact told3 k (fun c v e => by cases e; decide)
  have dd : Dd (.tup [.str "InvalidNumber", .int 0]) 2 := Dd.tup fun p hp => by
    simp only [List.mem_cons, List.not_mem_nil, or_false] at hp
    rcases hp with rfl | rfl
    · exact (Dd.str (by decide +kernel)).mono (by decide)
    · exact (Dd.int 0).mono (by decide)
  have t3 : q_law_3 ⟨[some (.val (scrOf ns)), some (.own m'), a2, a3, a4, a5, a6, a7, a8, a9, a10, none, none], []⟩ = .rt (.bl true) ⟨[some (.val (scrOf ns)), some (.own m'), a2, a3, a4, a5, a6, a7, a8, a9, a10, none, none], []⟩ := by
    have mk := make_d (xs := []) (n := 2) (st := ⟨[some (.val (scrOf ns)), some (.own m'), a2, a3, a4, a5, a6, a7, a8, a9, a10, none, none], []⟩) (s1 := ⟨[some (.val (scrOf ns)), some (.own m'), a2, a3, a4, a5, a6, a7, a8, a9, a10, none, none], []⟩) (fa := aCons (eC (.int 2)) (aCons (frz (oLst aNil)) aNil)) (acons_at (s1 := ⟨[some (.val (scrOf ns)), some (.own m'), a2, a3, a4, a5, a6, a7, a8, a9, a10, none, none], []⟩) rfl (acons_at (PM.lst_at (l := []) rfl (by show (0 : Nat) ≤ 16777216; decide)) rfl)) (by decide) (fun x h => nomatch h)
    refine ret_at (bin_at (p := .tup [.str "InvalidNumber", .int 0]) (q := .tup [.str "InvalidNumber", .int 0]) (call4_ok rfl mk rfl rfl T) (tup_at (l := [.str "InvalidNumber", .int 0]) rfl (by show (2 : Nat) ≤ 16777216; decide)) ?_)
    show (pEqB _ _).map PV.bl = _
    rw [Dd.eq_self dd (by decide)]
    rfl
  unfold m_law
  rw [g_law_eq]
  simp only [mOf, start0, List.map_cons, List.map_nil, List.length_cons, List.length_nil, Nat.reduceAdd, Nat.reduceSub, List.replicate, List.cons_append, List.nil_append]
  rw [seq_nx t1, seq_nx t2, seq_rt t3]
  rfl
end K20
open PySem PySem.W PyProof.Rows
set_option maxRecDepth 100000 in
set_option maxHeartbeats 0 in
theorem PySem.Challenge.cw_stridelanes_k20_errors_of_written_holds : PySem.Challenge.rw_stridelanes_k20_errors_of_written.Holds := by
  w_on; o_law; k_head; (case hw => w_witness2)
  k_fill
  refine PL.walk_ofG (l := PySem.Challenge.rw_stridelanes_k20_errors_of_written) (n := 63) (k := 21) (x := "script") (Cn := fun w => L2N.CX PySem.Challenge.rw_stridelanes_k20_errors_of_written.prog w) (sp := fun w => PL.spX _ K20.m_law) rfl (by decide) rfl ⟨rfl, by decide, by decide⟩ (fun w h Y => PySem.W.kIn_of Y) ?F (fun w H a ns hl hO hS => PL.law_sp K20.law_true hl hS (hT := PL.tabOk_nil)) (fun w H s e s' h => PL.no_cx h)
  case F =>
    intro w mg fa h KX G hmg
    refine' K20.all_mk KX G hmg ?aC_Kernel ?a0 ?l0 ?c0 ?k0 ?a1 ?l1 ?c1 ?k1 ?a2 ?l2 ?c2 ?k2 ?a3 ?l3 ?c3 ?k3 ?a4 ?l4 ?c4 ?k4 ?m4 ?o4 ?a5 ?l5 ?c5 ?k5 ?a6 ?l6 ?c6 ?k6 ?a7 ?l7 ?c7 ?k7 ?a8 ?l8 ?c8 ?k8 ?a9 ?l9 ?c9 ?k9 ?a10 ?l10 ?c10 ?k10 ?a11 ?l11 ?c11 ?k11 ?a12 ?l12 ?c12 ?k12 ?a13 ?l13 ?c13 ?k13 ?a14 ?l14 ?c14 ?k14 ?a15 ?l15 ?c15 ?k15 ?a16 ?l16 ?c16 ?k16 ?a17 ?l17 ?c17 ?k17 ?a18 ?l18 ?c18 ?k18 ?a19 ?l19 ?c19 ?k19 ?a20 ?l20 ?c20 ?k20 ?a21 ?l21 ?c21 ?k21 ?a22 ?l22 ?c22 ?k22 ?a23 ?l23 ?c23 ?k23 ?a24 ?l24 ?c24 ?k24 ?a25 ?l25 ?c25 ?k25 ?a26 ?l26 ?c26 ?k26 ?a27 ?l27 ?c27 ?k27 ?a28 ?l28 ?c28 ?k28 ?a29 ?l29 ?c29 ?k29 ?a30 ?l30 ?c30 ?k30 ?z_ValueError ?z_abs ?z_all ?z_any ?z_enumerate ?z_isinstance ?z_len ?z_max ?z_min ?z_range ?z_tuple ?n_MOST_LETTERS ?n_LETTERS ?n_READ ?n_WRITE ?pg_Kernel ?hd_Kernel ?po_Kernel ?sa_Kernel ?mi_Kernel ?kc_Kernel ?fi_Kernel ?na_Kernel_lane_count ?na_Kernel_kept_statements ?na_Kernel_kept_barriers ?aD_ITEMS ?lD_ITEMS ?tD_ITEMS ?wD_ITEMS ?kD_ITEMS_0 ?kD_ITEMS_1 ?kD_ITEMS_2 ?aD_PLACES ?lD_PLACES ?tD_PLACES ?wD_PLACES ?kD_PLACES_0 ?uD_PLACES_0 ?sD_PLACES_0 ?vD_PLACES_0 ?kD_PLACES_1 ?uD_PLACES_1 ?sD_PLACES_1 ?vD_PLACES_1 ?kD_PLACES_2 ?uD_PLACES_2 ?sD_PLACES_2 ?vD_PLACES_2 ?aC_InvalidBarrier ?xC_InvalidBarrier ?ne_InvalidBarrier ?sa_InvalidBarrier ?ga_InvalidBarrier ?gg_InvalidBarrier ?nv_InvalidBarrier ?iC_InvalidBarrier ?tC_InvalidBarrier ?l1_InvalidBarrier ?c1_InvalidBarrier ?lc_InvalidBarrier ?hv_InvalidBarrier ?hf_InvalidBarrier ?lcc_InvalidBarrier ?hln_InvalidBarrier ?kC_InvalidBarrier ?eC_InvalidBarrier ?vC_InvalidBarrier ?yC_InvalidBarrier ?hC_InvalidBarrier ?isC_InvalidBarrier ?sC_InvalidBarrier ?ny_InvalidBarrier ?mD_InvalidBarrier ?isD_InvalidBarrier ?zs_InvalidBarrier ?tp_InvalidBarrier ?aC_InvalidLanes ?xC_InvalidLanes ?ne_InvalidLanes ?sa_InvalidLanes ?ga_InvalidLanes ?gg_InvalidLanes ?nv_InvalidLanes ?iC_InvalidLanes ?tC_InvalidLanes ?l1_InvalidLanes ?c1_InvalidLanes ?lc_InvalidLanes ?hv_InvalidLanes ?hf_InvalidLanes ?lcc_InvalidLanes ?hln_InvalidLanes ?kC_InvalidLanes ?eC_InvalidLanes ?vC_InvalidLanes ?yC_InvalidLanes ?hC_InvalidLanes ?isC_InvalidLanes ?sC_InvalidLanes ?ny_InvalidLanes ?mD_InvalidLanes ?isD_InvalidLanes ?zs_InvalidLanes ?tp_InvalidLanes ?aC_InvalidStatement ?xC_InvalidStatement ?ne_InvalidStatement ?sa_InvalidStatement ?ga_InvalidStatement ?gg_InvalidStatement ?nv_InvalidStatement ?iC_InvalidStatement ?tC_InvalidStatement ?l1_InvalidStatement ?c1_InvalidStatement ?lc_InvalidStatement ?hv_InvalidStatement ?hf_InvalidStatement ?lcc_InvalidStatement ?hln_InvalidStatement ?kC_InvalidStatement ?eC_InvalidStatement ?vC_InvalidStatement ?yC_InvalidStatement ?hC_InvalidStatement ?isC_InvalidStatement ?sC_InvalidStatement ?ny_InvalidStatement ?mD_InvalidStatement ?isD_InvalidStatement ?zs_InvalidStatement ?tp_InvalidStatement ?aC_InvalidArray ?xC_InvalidArray ?ne_InvalidArray ?sa_InvalidArray ?ga_InvalidArray ?gg_InvalidArray ?nv_InvalidArray ?iC_InvalidArray ?tC_InvalidArray ?l1_InvalidArray ?c1_InvalidArray ?lc_InvalidArray ?hv_InvalidArray ?hf_InvalidArray ?lcc_InvalidArray ?hln_InvalidArray ?kC_InvalidArray ?eC_InvalidArray ?vC_InvalidArray ?yC_InvalidArray ?hC_InvalidArray ?isC_InvalidArray ?sC_InvalidArray ?ny_InvalidArray ?mD_InvalidArray ?isD_InvalidArray ?zs_InvalidArray ?tp_InvalidArray ?aC_InvalidNumber ?xC_InvalidNumber ?ne_InvalidNumber ?sa_InvalidNumber ?ga_InvalidNumber ?gg_InvalidNumber ?nv_InvalidNumber ?iC_InvalidNumber ?tC_InvalidNumber ?l1_InvalidNumber ?c1_InvalidNumber ?lc_InvalidNumber ?hv_InvalidNumber ?hf_InvalidNumber ?lcc_InvalidNumber ?hln_InvalidNumber ?kC_InvalidNumber ?eC_InvalidNumber ?vC_InvalidNumber ?yC_InvalidNumber ?hC_InvalidNumber ?isC_InvalidNumber ?sC_InvalidNumber ?ny_InvalidNumber ?mD_InvalidNumber ?isD_InvalidNumber ?zs_InvalidNumber ?tp_InvalidNumber ?aC_InvalidGuard ?aC_InvalidAccess ?aC_NotPlain ?aC_InvalidSchedule ?aC_Racing ?aC_UnlikeLanes ?aC_Unreadable ?aC_NothingToUndo ?aC_StrideError ?xkb
    (case aC_Kernel => k_is); (case a0 => k_is); (case l0 => k_is); (case c0 => k_is); (case k0 => k_is); (case a1 => k_is); (case l1 => k_is); (case c1 => k_is); (case k1 => k_is); (case a2 => k_is); (case l2 => k_is); (case c2 => k_is); (case k2 => k_is); (case a3 => k_is); (case l3 => k_is); (case c3 => k_is); (case k3 => k_is); (case a4 => k_is); (case l4 => k_is); (case c4 => k_is); (case k4 => k_is); (case m4 => k_is); (case o4 => k_is); (case a5 => k_is); (case l5 => k_is); (case c5 => k_is); (case k5 => k_is); (case a6 => k_is); (case l6 => k_is); (case c6 => k_is); (case k6 => k_is); (case a7 => k_is); (case l7 => k_is); (case c7 => k_is); (case k7 => k_is); (case a8 => k_is); (case l8 => k_is); (case c8 => k_is); (case k8 => k_is); (case a9 => k_is); (case l9 => k_is); (case c9 => k_is); (case k9 => k_is); (case a10 => k_is); (case l10 => k_is); (case c10 => k_is); (case k10 => k_is); (case a11 => k_is); (case l11 => k_is); (case c11 => k_is); (case k11 => k_is); (case a12 => k_is); (case l12 => k_is); (case c12 => k_is); (case k12 => k_is); (case a13 => k_is); (case l13 => k_is); (case c13 => k_is); (case k13 => k_is); (case a14 => k_is); (case l14 => k_is); (case c14 => k_is); (case k14 => k_is); (case a15 => k_is); (case l15 => k_is); (case c15 => k_is); (case k15 => k_is); (case a16 => k_is); (case l16 => k_is); (case c16 => k_is); (case k16 => k_is); (case a17 => k_is); (case l17 => k_is); (case c17 => k_is); (case k17 => k_is); (case a18 => k_is); (case l18 => k_is); (case c18 => k_is); (case k18 => k_is); (case a19 => k_is); (case l19 => k_is); (case c19 => k_is); (case k19 => k_is); (case a20 => k_is); (case l20 => k_is); (case c20 => k_is); (case k20 => k_is); (case a21 => k_is); (case l21 => k_is); (case c21 => k_is); (case k21 => k_is); (case a22 => k_is); (case l22 => k_is); (case c22 => k_is); (case k22 => k_is); (case a23 => k_is); (case l23 => k_is); (case c23 => k_is); (case k23 => k_is); (case a24 => k_is); (case l24 => k_is); (case c24 => k_is); (case k24 => k_is); (case a25 => k_is); (case l25 => k_is); (case c25 => k_is); (case k25 => k_is); (case a26 => k_is); (case l26 => k_is); (case c26 => k_is); (case k26 => k_is); (case a27 => k_is); (case l27 => k_is); (case c27 => k_is); (case k27 => k_is); (case a28 => k_is); (case l28 => k_is); (case c28 => k_is); (case k28 => k_is); (case a29 => k_is); (case l29 => k_is); (case c29 => k_is); (case k29 => k_is); (case a30 => k_is); (case l30 => k_is); (case c30 => k_is); (case k30 => k_is); (case z_ValueError => k_is); (case z_abs => k_is); (case z_all => k_is); (case z_any => k_is); (case z_enumerate => k_is); (case z_isinstance => k_is); (case z_len => k_is); (case z_max => k_is); (case z_min => k_is); (case z_range => k_is); (case z_tuple => k_is); (case n_MOST_LETTERS => k_is); (case n_LETTERS => k_is); (case n_READ => k_is); (case n_WRITE => k_is); (case pg_Kernel => k_is); (case hd_Kernel => k_is); (case po_Kernel => k_is); (case sa_Kernel => k_is); (case mi_Kernel => k_is); (case kc_Kernel => k_is); (case fi_Kernel => k_is); (case na_Kernel_lane_count => k_is); (case na_Kernel_kept_statements => k_is); (case na_Kernel_kept_barriers => k_is); (case aD_ITEMS => k_is); (case lD_ITEMS => k_is); (case tD_ITEMS => rfl); (case wD_ITEMS => first | rfl | decide +kernel); (case kD_ITEMS_0 => k_is); (case kD_ITEMS_1 => k_is); (case kD_ITEMS_2 => k_is); (case aD_PLACES => k_is); (case lD_PLACES => k_is); (case tD_PLACES => rfl); (case wD_PLACES => first | rfl | decide +kernel); (case kD_PLACES_0 => k_is); (case uD_PLACES_0 => k_is); (case sD_PLACES_0 => first | decide | decide +kernel); (case vD_PLACES_0 => exact (.cons ⟨_, rfl⟩ .nil)); (case kD_PLACES_1 => k_is); (case uD_PLACES_1 => k_is); (case sD_PLACES_1 => first | decide | decide +kernel); (case vD_PLACES_1 => exact (.cons ⟨_, rfl⟩ (.cons ⟨_, rfl⟩ .nil))); (case kD_PLACES_2 => k_is); (case uD_PLACES_2 => k_is); (case sD_PLACES_2 => first | decide | decide +kernel); (case vD_PLACES_2 => exact (.cons ⟨_, rfl⟩ (.cons ⟨_, rfl⟩ (.cons ⟨_, rfl⟩ .nil)))); (case aC_InvalidBarrier => k_is); (case xC_InvalidBarrier => k_is); (case ne_InvalidBarrier => first | rfl | decide +kernel); (case sa_InvalidBarrier => k_is); (case ga_InvalidBarrier => k_is); (case gg_InvalidBarrier => k_is); (case nv_InvalidBarrier => k_is); (case iC_InvalidBarrier => k_is); (case tC_InvalidBarrier => k_is); (case l1_InvalidBarrier => k_is); (case c1_InvalidBarrier => k_is); (case lc_InvalidBarrier => k_is); (case hv_InvalidBarrier => rfl); (case hf_InvalidBarrier => first | rfl | decide +kernel); (case lcc_InvalidBarrier => k_is); (case hln_InvalidBarrier => first | exact .inl rfl | exact .inr rfl); (case kC_InvalidBarrier => k_is); (case eC_InvalidBarrier => k_is); (case vC_InvalidBarrier => k_is); (case yC_InvalidBarrier => k_is); (case hC_InvalidBarrier => k_is); (case isC_InvalidBarrier => k_is); (case sC_InvalidBarrier => first | rfl | k_is); (case ny_InvalidBarrier => k_is); (case mD_InvalidBarrier => k_is); (case isD_InvalidBarrier => k_is); (case zs_InvalidBarrier => k_is); (case tp_InvalidBarrier => first | rfl | decide +kernel); (case aC_InvalidLanes => k_is); (case xC_InvalidLanes => k_is); (case ne_InvalidLanes => first | rfl | decide +kernel); (case sa_InvalidLanes => k_is); (case ga_InvalidLanes => k_is); (case gg_InvalidLanes => k_is); (case nv_InvalidLanes => k_is); (case iC_InvalidLanes => k_is); (case tC_InvalidLanes => k_is); (case l1_InvalidLanes => k_is); (case c1_InvalidLanes => k_is); (case lc_InvalidLanes => k_is); (case hv_InvalidLanes => rfl); (case hf_InvalidLanes => first | rfl | decide +kernel); (case lcc_InvalidLanes => k_is); (case hln_InvalidLanes => first | exact .inl rfl | exact .inr rfl); (case kC_InvalidLanes => k_is); (case eC_InvalidLanes => k_is); (case vC_InvalidLanes => k_is); (case yC_InvalidLanes => k_is); (case hC_InvalidLanes => k_is); (case isC_InvalidLanes => k_is); (case sC_InvalidLanes => first | rfl | k_is); (case ny_InvalidLanes => k_is); (case mD_InvalidLanes => k_is); (case isD_InvalidLanes => k_is); (case zs_InvalidLanes => k_is); (case tp_InvalidLanes => first | rfl | decide +kernel); (case aC_InvalidStatement => k_is); (case xC_InvalidStatement => k_is); (case ne_InvalidStatement => first | rfl | decide +kernel); (case sa_InvalidStatement => k_is); (case ga_InvalidStatement => k_is); (case gg_InvalidStatement => k_is); (case nv_InvalidStatement => k_is); (case iC_InvalidStatement => k_is); (case tC_InvalidStatement => k_is); (case l1_InvalidStatement => k_is); (case c1_InvalidStatement => k_is); (case lc_InvalidStatement => k_is); (case hv_InvalidStatement => rfl); (case hf_InvalidStatement => first | rfl | decide +kernel); (case lcc_InvalidStatement => k_is); (case hln_InvalidStatement => first | exact .inl rfl | exact .inr rfl); (case kC_InvalidStatement => k_is); (case eC_InvalidStatement => k_is); (case vC_InvalidStatement => k_is); (case yC_InvalidStatement => k_is); (case hC_InvalidStatement => k_is); (case isC_InvalidStatement => k_is); (case sC_InvalidStatement => first | rfl | k_is); (case ny_InvalidStatement => k_is); (case mD_InvalidStatement => k_is); (case isD_InvalidStatement => k_is); (case zs_InvalidStatement => k_is); (case tp_InvalidStatement => first | rfl | decide +kernel); (case aC_InvalidArray => k_is); (case xC_InvalidArray => k_is); (case ne_InvalidArray => first | rfl | decide +kernel); (case sa_InvalidArray => k_is); (case ga_InvalidArray => k_is); (case gg_InvalidArray => k_is); (case nv_InvalidArray => k_is); (case iC_InvalidArray => k_is); (case tC_InvalidArray => k_is); (case l1_InvalidArray => k_is); (case c1_InvalidArray => k_is); (case lc_InvalidArray => k_is); (case hv_InvalidArray => rfl); (case hf_InvalidArray => first | rfl | decide +kernel); (case lcc_InvalidArray => k_is); (case hln_InvalidArray => first | exact .inl rfl | exact .inr rfl); (case kC_InvalidArray => k_is); (case eC_InvalidArray => k_is); (case vC_InvalidArray => k_is); (case yC_InvalidArray => k_is); (case hC_InvalidArray => k_is); (case isC_InvalidArray => k_is); (case sC_InvalidArray => first | rfl | k_is); (case ny_InvalidArray => k_is); (case mD_InvalidArray => k_is); (case isD_InvalidArray => k_is); (case zs_InvalidArray => k_is); (case tp_InvalidArray => first | rfl | decide +kernel); (case aC_InvalidNumber => k_is); (case xC_InvalidNumber => k_is); (case ne_InvalidNumber => first | rfl | decide +kernel); (case sa_InvalidNumber => k_is); (case ga_InvalidNumber => k_is); (case gg_InvalidNumber => k_is); (case nv_InvalidNumber => k_is); (case iC_InvalidNumber => k_is); (case tC_InvalidNumber => k_is); (case l1_InvalidNumber => k_is); (case c1_InvalidNumber => k_is); (case lc_InvalidNumber => k_is); (case hv_InvalidNumber => rfl); (case hf_InvalidNumber => first | rfl | decide +kernel); (case lcc_InvalidNumber => k_is); (case hln_InvalidNumber => first | exact .inl rfl | exact .inr rfl); (case kC_InvalidNumber => k_is); (case eC_InvalidNumber => k_is); (case vC_InvalidNumber => k_is); (case yC_InvalidNumber => k_is); (case hC_InvalidNumber => k_is); (case isC_InvalidNumber => k_is); (case sC_InvalidNumber => first | rfl | k_is); (case ny_InvalidNumber => k_is); (case mD_InvalidNumber => k_is); (case isD_InvalidNumber => k_is); (case zs_InvalidNumber => k_is); (case tp_InvalidNumber => first | rfl | decide +kernel); (case aC_InvalidGuard => k_is); (case aC_InvalidAccess => k_is); (case aC_NotPlain => k_is); (case aC_InvalidSchedule => k_is); (case aC_Racing => k_is); (case aC_UnlikeLanes => k_is); (case aC_Unreadable => k_is); (case aC_NothingToUndo => k_is); (case aC_StrideError => k_is); (case xkb => kernel_rfl)
