import PyProof.Rows.All
import Wide.All
import OpenK.AllK
import Wide.FinOn
import HandS.ForMost
import HandS.ForExc
import HandS.CallSlots
import HandS.Wide
import HandS.Flow
import HandS.Walk
import HandS.Nested
import HandS.TupAny
import HandS.RaiseMore
import HandS.Conv
import HandS.Deep
import PyProof.SumWalkG
import PyProof.Rows.SumAny
import PyProof.TwoTypesSub
import HandS.TryOnly
import HandS.Style
import KE.KExcSuper
import HandS.Exc
import HandS.IsInst
import HandS.Codes
import HandS.Zip
import HandS.WideBits
import HandS.Star
import PyProof.LongRange
import HandS.More
import HandS.Dict
import HandS.HeadHook3
import PyProof.MeetsDict
import HandS.Iter
import HandS.Text
import HandS.Defaults
import PyProof.ListRange
import KE.GoesMore
import PyProof.AutoSeq1
import HandS.Spec
import HandS.Property
import OpenK.KOps
import PyProof.InstNe
import HandS.SortInts
import HandS.SortRule
import KE.KIntText
import PyProof.StrBlock2
import HandS.SetFor
import PyProof.Rows.SortShellAny
import HandS.HotCalls
import HandS.ExcField
import HandS.ExcValue
import KE.KExcIs
import HandS.ExcIs
import HandS.MapJoin
import PySem.Challenge.RW_stridelanes_k80_errors_made
set_option Elab.async false
set_option linter.all false
set_option maxRecDepth 100000
set_option maxHeartbeats 4000000
/-! PLG: promises of defs that are called where nothing is being shown (no repr runs around): what repr asks. -/
namespace PL
open PySem PySem.Spec PyProof.Rows L2
/-- as FnOk, at calls around which no guard of repr is open -/
structure FnG (P : Program) (w : World) (K : PySem.W.Frag) (mg : Str → Option Value) (base : Heap) (Cn : CXT) (k : Nat) (f : Addr) (fd : FuncData) (ps : List Str) (sp : Sp) : Prop where
  gl : ∀ vs H Q E, sp vs H Q E → vs.length = ps.length
  go : ∀ (A : Around) (outer : List Env) (s : Shared) (H : Hp) (args : Args) (us : List Value) (vs : List V) (Q : VK) (E : XK),
    Room k A → A.guards = some [] → Env0 P w K mg base A outer s H → BindsTo s fd args (ps.zip us) → Vals vs us → sp vs H Q E →
      codeAny (model P w) A (.call (.ref f) args) (CR Cn outer P w H s Q E) s
theorem FnG.mono {P : Program} {w : World} {K : PySem.W.Frag} {mg : Str → Option Value} {base : Heap} {Cn : CXT} {j k : Nat} {f : Addr} {fd : FuncData} {ps : List Str} {sp : Sp}
    (F : FnG P w K mg base Cn j f fd ps sp) (h : j ≤ k) : FnG P w K mg base Cn k f fd ps sp :=
  ⟨F.gl, fun A outer s H args us vs Q E room => F.go A outer s H args us vs Q E (room.mono h)⟩
section
variable {P : Program} {w : World} {K : PySem.W.Frag} {mg : Str → Option Value} {base : Heap}
/-- a def of the text keeps its promise -/
theorem fng_of {Cn : CXT} {k : Nat} {x qual : Str} {st : Stmt} {f : Addr} {fd : FuncData} {N ps : List Str} {sp : Sp} (F : Fun K x qual st f fd) (S : FnScope N ps (defScope st))
    (gl : ∀ vs H Q E, sp vs H Q E → vs.length = ps.length)
    (hbody : ∀ (cdv : Value) (A : Around) (outer : List Env) (s : Shared) (H : Hp) (vs : List V) (Q : VK) (E : XK), Room k (A.deeper (envOfC qual (defScope st) s.heap.objs.size f cdv)) →
      A.guards = some [] → sp vs H Q E → ∃ t, PSs (cxOf Cn P w K mg base N qual (defScope st) f cdv A outer s H E) (defBody st) t ∧ t { nx := fun _ H' => Q .non H', rt := Q } (start N vs) H) :
    FnG P w K mg base Cn (k + 1) f fd ps sp := by
  obtain ⟨oc, od, kV, doc, pm, an, cdv, ct, osl, rfl, lk, cod⟩ := F.ex
  refine ⟨gl, ?_⟩
  intro A outer s H args us vs Q E room gu e0 bnd rel hsp
  have hlen := gl _ _ _ _ hsp
  have inK : K.In s.heap := e0.mod.kin.keeps fun a u q => (e0.bs a u q).1
  have nolim : s.heap.NoLimit := e0.mod.nolimit.keeps fun a u q => (e0.bs a u q).1
  have kinds : ∀ y ∈ ps.zip us, (defScope st).names.lookup y.1 = some .local ∨
      ((defScope st).names.lookup y.1 = some .cell ∧ ((cellsFrom (s.heap.objs.size + 1) (defScope st).names []).lookup y.1).isSome = true) := by
    rintro ⟨n, v⟩ hy
    cases S.par n (List.of_mem_zip hy).1 with
    | inl z => exact .inl z
    | inr z => exact .inr ⟨z, PySem.W.cellsFrom_some _ _ _ (.inl z)⟩
  refine codeAny_call_function room.depth (inK _ _ lk) rfl S.co S.gen rfl (PySem.W.codeRec_of inK cod) (bnd _ _ _ _ ?_)
  refine wpAny_newFunctionEnv_cells S.kind kinds ?_
  intro env he s1 made
  subst he
  refine ⟨nolim.keeps made.toInCall.keep, codeAny_func ?_⟩
  obtain ⟨t, tr, tq⟩ := hbody cdv A outer s H vs Q E (room.deeper _) gu hsp
  have I0 := inv_start (CX := Cn) (E := E) S room.hd e0 hlen rel made
  refine wpAny_mono (tr.run [] s1 (start N vs) H _ I0 tq) ?_ fun e s' z => z
  intro fl s' end'
  cases fl with
  | brk => obtain ⟨_, _, _, z⟩ := end'; exact z.elim
  | cont => obtain ⟨_, _, _, z⟩ := end'; exact z.elim
  | next =>
    obtain ⟨σ', H', J, z⟩ := end'
    exact ⟨.non, H', J.os, J.bare, J.base, J.hok, rfl, z⟩
  | ret u =>
    obtain ⟨v, σ', H', J, rv, z⟩ := end'
    exact ⟨v, H', J.os, J.bare, J.base, J.hok, rv, z⟩
end
section
variable {X : Cx} {Cn : CXT} {k : Nat} {f : Addr} {fd : FuncData} {ps : List Str} {sp : Sp} {dvs : List V} {ds : List Value} {E : L2.St → XK} {x : Str} {p pos : Pos} {e : Expr} {es : List Expr} {t : TA}
theorem cr_ep {pins : List (Addr × Obj)} {σ : L2.St} {H : Hp} {s : Shared} {Q : VK} {D : XK} (hx : PassesAt Cn X σ D) (I : Inv X pins σ H s) {r : Result} {s' : Shared} (h : CR Cn X.stack X.prog X.w H s Q D r s') :
    match r with
    | .ok (.ret u) => EP X pins σ Q u s'
    | .ok _ => False
    | .error er => X.xe er s' := by
  cases r with
  | error er => exact hx pins H s er s' I h
  | ok fl => cases fl with
    | ret u => exact I.after h
    | next => exact h
    | brk => exact h
    | cont => exact h
theorem run_fng {pins : List (Addr × Obj)} {σ : L2.St} {H : Hp} {s : Shared} {Q : VK} {us : List Value} {vs : List V} (F : FnG X.prog X.w X.K X.mg X.base Cn k f fd ps sp) (room : Room k X.A) (gu : X.A.guards = some [])
    (hb : Binds X.K fd ps ds) (hd : Vals dvs ds) (hx : PassesAt Cn X σ (E σ)) (I : Inv X pins σ H s) (rel : Vals vs us) (h : sp (vs ++ dvs) H Q (E σ)) :
    wpAny (model X.prog X.w) X.A (call (.ref f) us) (EP X pins σ Q) X.xe s := by
  have rel2 : Vals (vs ++ dvs) (us ++ ds) := rel.append hd
  have n2 : (us ++ ds).length = ps.length := by rw [← rel2.length]; exact F.gl _ _ _ _ h
  refine wpAny_call (codeAny_mono (F.go X.A X.stack s H ⟨us, []⟩ (us ++ ds) (vs ++ dvs) Q (E σ) room gu I.env0 (hb s us I.kIn n2) rel2 h) ?_)
  intro r s' z
  have q := cr_ep hx I z
  cases r with
  | error er => exact q
  | ok fl => cases fl <;> first | exact q | exact q.elim
def tCallG (sp : Sp) (dvs : List V) (E : L2.St → XK) (t : TA) : TE := fun σ H Q => t σ H fun vs H1 => sp (vs ++ dvs) H1 Q (E σ)
theorem pe_callG (F : FnG X.prog X.w X.K X.mg X.base Cn k f fd ps sp) (room : Room k X.A) (gu : X.A.guards = some []) (hg : Gl X x) (hm : X.mg x = some (.ref f)) (hk : PySem.W.keepIn X.K (.ref f) = true)
    (hb : Binds X.K fd ps ds) (hd : Vals dvs ds) (hx : ∀ σ, PassesAt Cn X σ (E σ)) (ha : PA X (e :: es) t) (hdb : (x == ("__debug__" : Str)) = false)
    (he : starEach (e :: es) X.env = (false, eval e X.env) :: starEach es X.env) (hpl : (backTo pos (starEach es X.env)).any (·.1) = false) :
    PE X (.Call (.Name x p) (e :: es) [] pos) (tCallG sp dvs E t) := by
  refine ⟨?_⟩
  intro pins s σ H Q I h
  refine wpAny_Call_Name_kw (ld_glob I hg hm ?_ hdb)
  refine PySem.W.callWith_K (h₀ := X.base) I.ok.mod.kin hk (thn (ha.run pos pins s σ H _ I h) ?_) he hpl
  rintro us s1 ⟨vs, H1, I1, rel, q⟩
  exact ⟨I1.kIn, run_fng F room gu hb hd (hx σ) I1 rel q⟩
end
/-! ### the law itself -/
/-- the heap as the law finds it: the script alone is tracked, and locked -/
def hp0 (a : Addr) (o : Obj) (xs : List V) : Hp := fun b => if b = a then some (.frz o (.lst xs)) else none
theorem law_callG {P : Program} {w : World} {K : PySem.W.Frag} {mg mb : Str → Option Value} {Cn : CXT} {k : Nat} {fa a : Addr} {fd : FuncData} {x : Str} {sp : Sp} {s : Shared} {vs : List Value} {ns : List Int}
    (inK : K.In s.heap) (nm : s.heap.Ns mainGlobals mg) (nb : s.heap.Ns builtinsNs mb) (hbb : ∀ y : Str, y ≠ "__name__" → mb y = bootBuiltins y) (lim : s.heap.NoLimit) (gen0 : s.gens = #[])
    (obj : s.heap.get? a = some { cls := .type "list", data := .seq vs.toArray }) (isn : IntsAre vs ns) (small : ns.length ≤ sizeLine) (room : Room k callerA)
    (F : ∀ base : Heap, K.In base → base.Ns mainGlobals mg → FnG P w K mg base Cn k fa fd [x] sp) (bnd : ∀ (s : Shared) (u : Value), BindsTo s fd ⟨[u], []⟩ [(x, u)])
    (hsp : ∀ H : Hp, Only H → SqL K H a (ns.map V.int) → sp [.ref a] H (fun v _ => v = .bl true) fun _ _ _ => False)
    (hCn : ∀ H e s', Cn [] H s (fun _ _ _ => False) e s' → False) :
    codeAny (model P w) callerA (.call (.ref fa) ⟨[.ref a], []⟩) (fun r s' => r = .ok (.ret (.bool true)) ∧ OldK s.heap s'.heap ∧ s'.os = s.os ∧ AllBare s'.gens) s := by
  have rel : Vals (ns.map V.int) vs := L2.vals_ints isn
  have go : ∀ H : Hp, Only H → SqL K H a (ns.map V.int) → HOk P w H s.heap → (∀ b u, H b = some u → b = a ∧ K.lookup a = none) →
      codeAny (model P w) callerA (.call (.ref fa) ⟨[.ref a], []⟩) (fun r s' => r = .ok (.ret (.bool true)) ∧ OldK s.heap s'.heap ∧ s'.os = s.os ∧ AllBare s'.gens) s := by
    intro H only sq held one
    have notDict : ∀ {b : Addr} {o : Obj} {es : Array DictEntry} {ep : Nat}, s.heap.get? b = some o → o.data = .dict es ep → H b = none := by
      intro b o es ep e d
      cases q : H b with
      | none => rfl
      | some u =>
        rw [(one b u q).1, obj] at e
        cases e
        cases d
    have ns' : ∀ {b : Addr} {m : Str → Option Value}, s.heap.Ns b m → (hidT s.heap H).Ns b m := by
      rintro b m ⟨o, es, ep, e, d, r⟩
      exact ⟨o, es, ep, hidT_get e (notDict e d), d, r⟩
    have inB : K.In (hidT s.heap H) := by
      intro b o e
      refine hidT_get (inK b o e) ?_
      cases q : H b with
      | none => rfl
      | some u =>
        obtain ⟨e1, e2⟩ := one b u q
        rw [e1, e2] at e
        cases e
    have md : Mod K mg (hidT s.heap H) := ⟨inB, ns' nm, ⟨mb, ns' nb, hbb⟩, by obtain ⟨mc, c1, c2⟩ := lim; exact ⟨mc, ns' c1, c2⟩⟩
    have e0 : Env0 P w K mg (hidT s.heap H) callerA [] s H :=
      ⟨rfl, md, fun b o e => of_hidT e, Nat.le_of_eq (hidT_size _ _), trivial, fun b hb => by simp [frs] at hb, held, .of_eq gen0⟩
    refine codeAny_mono ((F _ inB (ns' nm)).go callerA [] s H ⟨[.ref a], []⟩ [.ref a] [.ref a] _ _ room rfl e0 (bnd s (.ref a)) (.cons rfl .nil) (hsp H only sq)) ?_
    intro r s' h
    cases r with
    | error e => exact (hCn H e s' h).elim
    | ok fl =>
      cases fl with
      | ret u =>
        obtain ⟨v, H', os, bare, un, held', rv, (q : v = .bl true)⟩ := h
        subst q
        cases rv
        refine ⟨rfl, OldK.of_keep ?_, os, bare⟩
        intro b o e
        cases q : H b with
        | none => exact un.keep b o e q (by simp [frs]) (by simp)
        | some u =>
          rcases only b with z | ⟨ob, xs, z⟩
          · rw [q] at z; cases z
          · obtain ⟨e1, _⟩ := held b _ z
            obtain ⟨e2, _⟩ := held' b _ (un.frzs b ob _ z)
            rw [e] at e1
            cases e1
            exact e2
      | next => exact False.elim h
      | brk => exact False.elim h
      | cont => exact False.elim h
  cases hk : K.lookup a with
  | some o =>
    have e := inK a o hk
    rw [obj] at e
    cases e
    refine go (fun _ => none) (fun _ => .inl rfl) (.inr ⟨_, vs.toArray, _, hk, rfl, rfl, rfl, ?_, by simpa using rel⟩) (fun b u z => nomatch z) (fun b u z => nomatch z)
    rw [List.size_toArray, isn.length]
    exact small
  | none =>
    have at_a : hp0 a { cls := .type "list", data := .seq vs.toArray } (ns.map V.int) a = some (.frz { cls := .type "list", data := .seq vs.toArray } (.lst (ns.map V.int))) := if_pos rfl
    have only_a : ∀ b u, hp0 a { cls := .type "list", data := .seq vs.toArray } (ns.map V.int) b = some u → b = a := fun b u z => by
      by_cases hb : b = a
      · exact hb
      · have z2 : (none : Option HO) = some u := (if_neg hb).symm.trans z
        cases z2
    refine go (hp0 a { cls := .type "list", data := .seq vs.toArray } (ns.map V.int)) (fun b => ?_) (.inl (.inr ⟨_, at_a⟩)) (fun b u z => ?_) fun b u z => ⟨only_a b u z, hk⟩
    · by_cases hb : b = a
      · exact .inr ⟨_, _, if_pos hb⟩
      · exact .inl (if_neg hb)
    · have hb := only_a b u z
      subst hb
      rw [at_a] at z
      cases z
      exact ⟨obj, by rw [List.length_map]; exact small, vs, _, rel, obj⟩
/-- the goal behind the head -/
theorem walk_ofG {l : PySem.W.OpenLaw} {n k : Nat} {q : Program} {loose : List Str} {XP : (Str → Option Value) → Heap → Prop} {YP : World → Heap → Prop} {d : DefRec} {K : Params → PySem.W.Frag} {Cn : World → CXT} {sp : World → Sp} {x : Str}
    (hn : l.most = some n) (hn2 : n ≤ sizeLine) (hdf : d.params.defaults = []) (room : Room k callerA) (hY : ∀ (w : World) (h : Heap), YP w h → (K w.params).In h)
    (F : ∀ (w : World) (mg : Str → Option Value) (fa : Addr) (h : Heap), (K w.params).In h → h.Ns mainGlobals mg → mg d.name = some (.ref fa) →
      ∃ fd : FuncData, (∀ (s : Shared) (u : Value), BindsTo s fd ⟨[u], []⟩ [(x, u)]) ∧ ∀ base : Heap, (K w.params).In base → base.Ns mainGlobals mg → FnG l.prog w (K w.params) mg base (Cn w) k fa fd [x] (sp w))
    (hsp : ∀ (w : World) (H : Hp) (a : Addr) (ns : List Int), ns.length ≤ n → Only H → SqL (K w.params) H a (ns.map V.int) → sp w [.ref a] H (fun v _ => v = .bl true) fun _ _ _ => False)
    (hCn : ∀ (w : World) (H : Hp) (s : Shared) (e : Value) (s' : Shared), Cn w [] H s (fun _ _ _ => False) e s' → False) : PySem.W.WalkO q loose XP YP l.row.toRowW d [] (fun f vs => PySem.call f vs) := by
  refine Att.attach_call hn hdf ?_
  intro w s0 s1 mg mb fa o pm cd doc a vs ns G Y ho hd hcd hmg hobj hints hlen hg
  have inK := hY w _ Y
  obtain ⟨fd, bnd, hF⟩ := F w mg fa _ inK G.T.g hmg
  exact law_callG inK G.T.g G.T.b G.T.builtins G.T.nolimit hg hobj hints (Nat.le_trans hlen hn2) room hF bnd (fun H hO hS => hsp w H a ns hlen hO hS) fun H e s' => hCn w H s1 e s'
end PL
/-! PL1: plain values over the hand layer: what stands for what, the state, the judgement of expressions. -/
namespace PL
open PySem PySem.Spec PyProof.Rows L2
/-- a plain value: data that nobody changes; scr: a list that may be read alone (the script) -/
inductive PV where
  | non | bl (b : Bool) | int (i : Int) | str (x : Str)
  | tup (l : List PV) | lst (l : List PV) | scr (l : List PV)
  | ins (c : Str) (fs : List (Str × PV))
  | fnp
  | exi (c : Str) (v : PV)
/-- an object that is changed in place -/
inductive MO where
  | lst (l : List PV)
  | ins (c : Str) (fs : List (Str × PV))
  | dct (kvs : List (Key × PV))
  | lls (ls : List (List PV))
  | bag (g : List Int) (left turn blend : Int)
/-- what a slot holds: a plain value, an object that this slot alone knows, or the k-th object that was lent to the def -/
inductive SV where
  | val (v : PV) | own (m : MO) | bor (k : Nat)
structure Stt where
  ro : List (Option SV)
  mu : List MO
/-- fa: the function that a def got (PV.fnp); F0: plain things that stood at the entry -/
structure Fx where
  K : PySem.W.Frag
  cl : Str → Addr
  nb : Nat
  be : Nat → Addr
  Bf : Nat → List Addr
  fa : Addr := 0
  F0 : Hp := fun _ => none
/-- the defs that make lambdas; where their code objects' tables lie is told by cl -/
def tabNames : List Str := ["pair_at", "race_at", "least_harmful", "order_in"]
def tabKey (q : Str) : Str := "<" ++ q
/-- the tables: what they tell are code objects, which are plain things -/
def TabOk (cl : Str → Addr) (F H : Hp) : Prop := ∀ q ∈ tabNames, cl (tabKey q) ≠ 0 → F (cl (tabKey q)) = none ∧ ∃ ps : Array Value, H (cl (tabKey q)) = some (.tbl ps) ∧ TriplesOk ps.toList ∧
  ∀ (pos : Pos) (cv : Value), codeAmong pos ps.toList = some cv → ∃ c, cv = .ref c ∧ F c = some (LamX.CodeO c ((q ++ ".<locals>.") ++ "<lambda>"))
/-- a table, a code object, a function -/
def Tbx : HO → Prop
  | .tbl _ => True
  | .ext _ => True
  | _ => False
theorem Tbx.tbl {o : HO} (h : ¬ Tbx o) : ∀ ps, o ≠ .tbl ps := fun ps e => h (by rw [e]; trivial)
theorem TabOk.off {cl : Str → Addr} {F F' H H' : Hp} (t : TabOk cl F H) (sF : Same F F') (n : ∀ b ps, H b = some (.tbl ps) → F b = none → F' b = none) (e : ∀ b o, Tbx o → H b = some o → H' b = some o) : TabOk cl F' H' := fun q hq h => by
  obtain ⟨h0, ps, h1, h2, h3⟩ := t q hq h
  refine ⟨n _ _ h1 h0, ps, e _ _ trivial h1, h2, fun pos cv hc => ?_⟩
  obtain ⟨c, e1, e2⟩ := h3 pos cv hc
  exact ⟨c, e1, sF _ _ e2⟩
theorem TabOk.off0 {cl : Str → Addr} {F H H' : Hp} (t : TabOk cl F H) (e : ∀ b o, Tbx o → H b = some o → H' b = some o) : TabOk cl F H' := t.off (fun _ _ h => h) (fun _ _ _ h => h) e
theorem TabOk.ext0 {cl : Str → Addr} {F H H' : Hp} (t : TabOk cl F H) (e : ∀ b o, H b = some o → H' b = some o) : TabOk cl F H' := t.off0 fun b o _ => e b o
/-- an exception object of the class cls, its dict at d, raised or not, that nobody raises again -/
def ExV (cls : Value) (d a : Addr) : HO := .ext fun h => ∃ (oe : Obj) (vs : Array Value), h.get? a = some oe ∧ Zc cls (some d) oe ∧ oe.data = .fields vs
mutual
inductive Rp (C : Fx) (F : Hp) : V → PV → Prop
  | non : Rp C F .non .non
  | bl (b : Bool) : Rp C F (.bl b) (.bl b)
  | int (i : Int) : Rp C F (.int i) (.int i)
  | str (x : Str) : Rp C F (.str x) (.str x)
  | tup {a : Addr} {xs : List V} {l : List PV} : SqT C.K F a xs → Rps C F xs l → Rp C F (.ref a) (.tup l)
  | lst {a : Addr} {xs : List V} {l : List PV} : F a = some (.lst xs) → Rps C F xs l → Rp C F (.ref a) (.lst l)
  | scr {a : Addr} {xs : List V} {l : List PV} : SqL C.K F a xs → Rps C F xs l → Rp C F (.ref a) (.scr l)
  | ins {a : Addr} {c : Str} {dx : Addr} {fs : List (Str × V)} {l : List (Str × PV)} : F a = some (.ins (C.cl c) dx fs) → Rpf C F fs l → Rp C F (.ref a) (.ins c l)
  | fnp : Rp C F (.ref C.fa) .fnp
  | exi {a dx : Addr} {c : Str} {u : V} {p : PV} : F a = some (ExV (.ref (C.cl c)) dx a) → F dx = some (.xd [(("value" : Str), u)]) → Rp C F u p → Rp C F (.ref a) (.exi c p)
inductive Rps (C : Fx) (F : Hp) : List V → List PV → Prop
  | nil : Rps C F [] []
  | cons {v : V} {vs : List V} {p : PV} {ps : List PV} : Rp C F v p → Rps C F vs ps → Rps C F (v :: vs) (p :: ps)
inductive Rpf (C : Fx) (F : Hp) : List (Str × V) → List (Str × PV) → Prop
  | nil : Rpf C F [] []
  | cons {n : Str} {v : V} {vs : List (Str × V)} {p : PV} {ps : List (Str × PV)} : Rp C F v p → Rpf C F vs ps → Rpf C F ((n, v) :: vs) ((n, p) :: ps)
end
theorem sqT_mono {K : PySem.W.Frag} {H H' : Hp} {a : Addr} {xs : List V} (e : Same H H') (h : SqT K H a xs) : SqT K H' a xs := by
  rcases h with (h | ⟨o, h⟩) | h
  · exact .inl (.inl (e _ _ h))
  · exact .inl (.inr ⟨o, e _ _ h⟩)
  · exact .inr h
mutual
theorem Rp.mono {C : Fx} {F F' : Hp} (e : Same F F') : ∀ {v : V} {p : PV}, Rp C F v p → Rp C F' v p
  | _, _, .non => .non
  | _, _, .bl b => .bl b
  | _, _, .int i => .int i
  | _, _, .str x => .str x
  | _, _, .tup h r => .tup (sqT_mono e h) (Rps.mono e r)
  | _, _, .lst h r => .lst (e _ _ h) (Rps.mono e r)
  | _, _, .scr h r => .scr (e.seq h) (Rps.mono e r)
  | _, _, .ins h r => .ins (e _ _ h) (Rpf.mono e r)
  | _, _, .fnp => .fnp
  | _, _, .exi h k r => .exi (e _ _ h) (e _ _ k) (Rp.mono e r)
theorem Rps.mono {C : Fx} {F F' : Hp} (e : Same F F') : ∀ {v : List V} {p : List PV}, Rps C F v p → Rps C F' v p
  | _, _, .nil => .nil
  | _, _, .cons h r => .cons (Rp.mono e h) (Rps.mono e r)
theorem Rpf.mono {C : Fx} {F F' : Hp} (e : Same F F') : ∀ {v : List (Str × V)} {p : List (Str × PV)}, Rpf C F v p → Rpf C F' v p
  | _, _, .nil => .nil
  | _, _, .cons h r => .cons (Rp.mono e h) (Rpf.mono e r)
end
section
variable {C : Fx} {F : Hp}
theorem Rps.length : ∀ {vs : List V} {ps : List PV}, Rps C F vs ps → vs.length = ps.length
  | _, _, .nil => rfl
  | _, _, .cons _ r => by rw [List.length_cons, List.length_cons, Rps.length r]
theorem Rps.get : ∀ {vs : List V} {ps : List PV} {i : Nat} {p : PV}, Rps C F vs ps → ps[i]? = some p → ∃ v, vs[i]? = some v ∧ Rp C F v p
  | _, _, _, _, .nil, e => by simp at e
  | _, _, 0, _, .cons r _, e => by simp at e; subst e; exact ⟨_, rfl, r⟩
  | _, _, i + 1, _, .cons _ t, e => by
    obtain ⟨v, h1, h2⟩ := Rps.get (i := i) t (by simpa using e)
    exact ⟨v, by simpa using h1, h2⟩
theorem Rps.getV : ∀ {vs : List V} {ps : List PV} {i : Nat} {v : V}, Rps C F vs ps → vs[i]? = some v → ∃ p, ps[i]? = some p ∧ Rp C F v p
  | _, _, _, _, .nil, e => by simp at e
  | _, _, 0, _, .cons r _, e => by simp at e; subst e; exact ⟨_, rfl, r⟩
  | _, _, i + 1, _, .cons _ t, e => by
    obtain ⟨v, h1, h2⟩ := Rps.getV (i := i) t (by simpa using e)
    exact ⟨v, by simpa using h1, h2⟩
theorem Rps.append : ∀ {xs ys : List V} {ps qs : List PV}, Rps C F xs ps → Rps C F ys qs → Rps C F (xs ++ ys) (ps ++ qs)
  | _, _, _, _, .nil, s => s
  | _, _, _, _, .cons r t, s => .cons r (Rps.append t s)
theorem Rps.take : ∀ {xs : List V} {ps : List PV} (n : Nat), Rps C F xs ps → Rps C F (xs.take n) (ps.take n)
  | _, _, 0, _ => .nil
  | _, _, _ + 1, .nil => .nil
  | _, _, n + 1, .cons r t => .cons r (Rps.take n t)
theorem Rps.drop : ∀ {xs : List V} {ps : List PV} (n : Nat), Rps C F xs ps → Rps C F (xs.drop n) (ps.drop n)
  | _, _, 0, r => r
  | _, _, _ + 1, .nil => .nil
  | _, _, n + 1, .cons _ t => Rps.drop n t
theorem Rps.set {v : V} {p : PV} (r : Rp C F v p) : ∀ {xs : List V} {ps : List PV} (n : Nat), Rps C F xs ps → Rps C F (xs.set n v) (ps.set n p)
  | _, _, _, .nil => .nil
  | _, _, 0, .cons _ t => .cons r t
  | _, _, n + 1, .cons q t => .cons q (Rps.set r n t)
theorem Rps.reverse {xs : List V} {ps : List PV} (r : Rps C F xs ps) : Rps C F xs.reverse ps.reverse := by
  induction r using Rps.rec (motive_1 := fun _ _ _ => True) (motive_3 := fun _ _ _ => True) with
  | nil => exact .nil
  | cons h _ _ ih =>
    rw [List.reverse_cons, List.reverse_cons]
    exact Rps.append ih (.cons h .nil)
  | _ => trivial
theorem Rps.ints : ∀ {vs : List V} {ns : List Int}, Rps C F vs (ns.map PV.int) → vs = ns.map V.int
  | [], [], _ => rfl
  | _ :: _, n :: ns, .cons (.int _) r => by rw [List.map_cons, Rps.ints (ns := ns) r]
theorem Rps.of_ints : ∀ (ns : List Int), Rps C F (ns.map V.int) (ns.map PV.int)
  | [] => .nil
  | n :: ns => .cons (.int n) (Rps.of_ints ns)
end
/-- lists that are changed, one behind the other -/
def Lls (C : Fx) (F H : Hp) : List Addr → List (List PV) → Prop
  | [], [] => True
  | a :: as, l :: ls => (∃ xs, H a = some (.lst xs) ∧ Rps C F xs l) ∧ Lls C F H as ls
  | _, _ => False
theorem Lls.keep {C : Fx} {F F' H H' : Hp} (e : Same F F') : ∀ {as : List Addr} {ls : List (List PV)}, Lls C F H as ls → (∀ b o, b ∈ as → H b = some o → H' b = some o) → Lls C F' H' as ls
  | [], [], _, _ => trivial
  | a :: as, l :: ls, ⟨⟨xs, h1, h2⟩, h⟩, k => ⟨⟨xs, k a _ List.mem_cons_self h1, h2.mono e⟩, Lls.keep e h fun b o hb => k b o (List.mem_cons_of_mem _ hb)⟩
  | [], _ :: _, h, _ => h.elim
  | _ :: _, [], h, _ => h.elim
theorem Lls.keepT {C : Fx} {F F' H H' : Hp} (e : Same F F') : ∀ {as : List Addr} {ls : List (List PV)}, Lls C F H as ls → (∀ b o, b ∈ as → ¬ Tbx o → H b = some o → H' b = some o) → Lls C F' H' as ls
  | [], [], _, _ => trivial
  | a :: as, l :: ls, ⟨⟨xs, h1, h2⟩, h⟩, k => ⟨⟨xs, k a _ List.mem_cons_self (fun z => z) h1, h2.mono e⟩, Lls.keepT e h fun b o hb => k b o (List.mem_cons_of_mem _ hb)⟩
  | [], _ :: _, h, _ => h.elim
  | _ :: _, [], h, _ => h.elim
theorem Lls.there {C : Fx} {F H : Hp} : ∀ {as : List Addr} {ls : List (List PV)}, Lls C F H as ls → ∀ b, b ∈ as → H b ≠ none
  | [], [], _, _, hb => by cases hb
  | a :: as, l :: ls, ⟨⟨xs, h1, h2⟩, h⟩, b, hb => by
    rcases List.mem_cons.mp hb with e | hb
    · subst e; rw [h1]; simp
    · exact Lls.there h b hb
  | [], _ :: _, h, _, _ => h.elim
  | _ :: _, [], h, _, _ => h.elim
/-- where a changeable object stands: p its address, fp all addresses that belong to it -/
def MAt (C : Fx) (F H : Hp) (p : Addr) (fp : List Addr) : MO → Prop
  | .lst l => fp = [p] ∧ ∃ xs, H p = some (.lst xs) ∧ Rps C F xs l
  | .ins c l => fp = [p] ∧ ∃ dx fs, H p = some (.ins (C.cl c) dx fs) ∧ Rpf C F fs l
  | .dct kvs => fp = [p] ∧ ∃ ks : List (Key × V), H p = some (.dK ks) ∧ ks.map (·.1) = kvs.map (·.1) ∧ Rps C F (ks.map (·.2)) (kvs.map (·.2))
  | .lls ls => ∃ as, fp = p :: as ∧ p ∉ as ∧ as.Nodup ∧ H p = some (.lst (as.map V.ref)) ∧ Lls C F H as ls
  | .bag g l t b => ∃ q, fp = [p, q] ∧ p ≠ q ∧ H p = some (.dK [(.inr "great", .ref q), (.inr "left", .int l), (.inr "turn", .int t), (.inr "blend", .int b)]) ∧ H q = some (.lst (g.map V.int))
/-- the plain part may grow, the object's own part must stay -/
theorem MAt.keep {C : Fx} {F F' H H' : Hp} {p : Addr} {fp : List Addr} {m : MO} (h : MAt C F H p fp m) (e : Same F F') (k : ∀ b o, b ∈ fp → H b = some o → H' b = some o) : MAt C F' H' p fp m := by
  cases m with
  | lst l =>
    obtain ⟨rfl, xs, h1, h2⟩ := h
    exact ⟨rfl, xs, k _ _ List.mem_cons_self h1, h2.mono e⟩
  | ins c l =>
    obtain ⟨rfl, dx, fs, h1, h2⟩ := h
    exact ⟨rfl, dx, fs, k _ _ List.mem_cons_self h1, h2.mono e⟩
  | dct l =>
    obtain ⟨rfl, ks, h1, h2, h3⟩ := h
    exact ⟨rfl, ks, k _ _ List.mem_cons_self h1, h2, h3.mono e⟩
  | lls l =>
    obtain ⟨as, rfl, n, nd, h1, h2⟩ := h
    exact ⟨as, rfl, n, nd, k _ _ List.mem_cons_self h1, h2.keep e fun b o hb => k b o (List.mem_cons_of_mem _ hb)⟩
  | bag g l t b =>
    obtain ⟨q, rfl, n, h1, h2⟩ := h
    exact ⟨q, rfl, n, k _ _ List.mem_cons_self h1, k _ _ (List.mem_cons_of_mem _ List.mem_cons_self) h2⟩
/-- the plain part may grow, the object's own part must stay -/
theorem MAt.keepT {C : Fx} {F F' H H' : Hp} {p : Addr} {fp : List Addr} {m : MO} (h : MAt C F H p fp m) (e : Same F F') (k : ∀ b o, b ∈ fp → ¬ Tbx o → H b = some o → H' b = some o) : MAt C F' H' p fp m := by
  cases m with
  | lst l =>
    obtain ⟨rfl, xs, h1, h2⟩ := h
    exact ⟨rfl, xs, k _ _ List.mem_cons_self (fun z => z) h1, h2.mono e⟩
  | ins c l =>
    obtain ⟨rfl, dx, fs, h1, h2⟩ := h
    exact ⟨rfl, dx, fs, k _ _ List.mem_cons_self (fun z => z) h1, h2.mono e⟩
  | dct l =>
    obtain ⟨rfl, ks, h1, h2, h3⟩ := h
    exact ⟨rfl, ks, k _ _ List.mem_cons_self (fun z => z) h1, h2, h3.mono e⟩
  | lls l =>
    obtain ⟨as, rfl, n, nd, h1, h2⟩ := h
    exact ⟨as, rfl, n, nd, k _ _ List.mem_cons_self (fun z => z) h1, h2.keepT e fun b o hb => k b o (List.mem_cons_of_mem _ hb)⟩
  | bag g l t b =>
    obtain ⟨q, rfl, n, h1, h2⟩ := h
    exact ⟨q, rfl, n, k _ _ List.mem_cons_self (fun z => z) h1, k _ _ (List.mem_cons_of_mem _ List.mem_cons_self) (fun z => z) h2⟩
/-- none of its objects is a table or code -/
theorem MAt.nte {C : Fx} {F H : Hp} {p : Addr} {fp : List Addr} {m : MO} (h : MAt C F H p fp m) : ∀ b o, b ∈ fp → H b = some o → ¬ Tbx o := by
  have lls : ∀ {as : List Addr} {ls : List (List PV)}, Lls C F H as ls → ∀ b o, b ∈ as → H b = some o → ¬ Tbx o := by
    intro as
    induction as with
    | nil => intro ls _ b o hb; cases hb
    | cons a as ih =>
      intro ls hl b o hb e
      cases ls with
      | nil => exact hl.elim
      | cons l ls =>
        obtain ⟨⟨xs, h1, _⟩, h2⟩ := hl
        rcases List.mem_cons.mp hb with z | hb
        · rw [z, h1] at e; cases e; exact fun z => z
        · exact ih h2 b o hb e
  intro b o hb e
  cases m with
  | lst l =>
    obtain ⟨rfl, xs, h1, h2⟩ := h
    rw [List.mem_singleton] at hb
    rw [hb, h1] at e; cases e; exact fun z => z
  | ins c l =>
    obtain ⟨rfl, dx, fs, h1, h2⟩ := h
    rw [List.mem_singleton] at hb
    rw [hb, h1] at e; cases e; exact fun z => z
  | dct l =>
    obtain ⟨rfl, ks, h1, h2, h3⟩ := h
    rw [List.mem_singleton] at hb
    rw [hb, h1] at e; cases e; exact fun z => z
  | lls l =>
    obtain ⟨as, rfl, n, nd, h1, h2⟩ := h
    rcases List.mem_cons.mp hb with z | hb
    · rw [z, h1] at e; cases e; exact fun z => z
    · exact lls h2 b o hb e
  | bag g l t bb =>
    obtain ⟨q, rfl, n, h1, h2⟩ := h
    rcases List.mem_cons.mp hb with z | hb
    · rw [z, h1] at e; cases e; exact fun z => z
    · rw [List.mem_singleton] at hb
      rw [hb, h2] at e; cases e; exact fun z => z
theorem MAt.there {C : Fx} {F H : Hp} {p : Addr} {fp : List Addr} {m : MO} (h : MAt C F H p fp m) : ∀ b, b ∈ fp → H b ≠ none := by
  intro b hb
  cases m with
  | lst l =>
    obtain ⟨rfl, xs, h1, h2⟩ := h
    rw [List.mem_singleton] at hb
    subst hb; rw [h1]; simp
  | ins c l =>
    obtain ⟨rfl, dx, fs, h1, h2⟩ := h
    rw [List.mem_singleton] at hb
    subst hb; rw [h1]; simp
  | dct l =>
    obtain ⟨rfl, ks, h1, h2, h3⟩ := h
    rw [List.mem_singleton] at hb
    subst hb; rw [h1]; simp
  | lls l =>
    obtain ⟨as, rfl, n, nd, h1, h2⟩ := h
    rcases List.mem_cons.mp hb with e | hb
    · subst e; rw [h1]; simp
    · exact h2.there b hb
  | bag g l t bb =>
    obtain ⟨q, rfl, n, h1, h2⟩ := h
    rcases List.mem_cons.mp hb with e | hb
    · subst e; rw [h1]; simp
    · rw [List.mem_singleton] at hb
      subst hb; rw [h2]; simp
/-- the state is held: F the plain part of the heap, A what the slots own -/
structure OkF (C : Fx) (F : Hp) (A : Nat → List Addr) (H : Hp) (σ : L2.St) (s : Stt) : Prop where
  len : σ.length = s.ro.length
  sub : Same F H
  val : ∀ (i : Nat) (v : PV), s.ro[i]? = some (some (SV.val v)) → ∃ u, σ[i]? = some (some u) ∧ Rp C F u v
  own : ∀ (i : Nat) (m : MO), s.ro[i]? = some (some (SV.own m)) → ∃ p, σ[i]? = some (some (.ref p)) ∧ MAt C F H p (A i) m
  nb : s.mu.length = C.nb
  lent : ∀ (i k : Nat), s.ro[i]? = some (some (SV.bor k)) → σ[i]? = some (some (V.ref (C.be k))) ∧ k < C.nb
  bor : ∀ (k : Nat) (m : MO), s.mu[k]? = some m → MAt C F H (C.be k) (C.Bf k) m
  free : ∀ i b, b ∈ A i → F b = none ∧ H b ≠ none
  dis : ∀ i j b, b ∈ A i → b ∈ A j → i = j
  freeB : ∀ k b, k < C.nb → b ∈ C.Bf k → F b = none ∧ ∀ i, b ∉ A i
  disB : ∀ k j b, k < C.nb → j < C.nb → b ∈ C.Bf k → b ∈ C.Bf j → k = j
  ext : Same C.F0 F ∧ TabOk C.cl F H
def OwnA (A : Nat → List Addr) (b : Addr) : Prop := ∃ i, b ∈ A i
def Bor (C : Fx) (b : Addr) : Prop := ∃ k, k < C.nb ∧ b ∈ C.Bf k
/-- what a piece of code may have done -/
structure Step (C : Fx) (F : Hp) (A : Nat → List Addr) (H F' : Hp) (A' : Nat → List Addr) (H' : Hp) : Prop where
  s1 : Same F F'
  s2 : ∀ b, F' b ≠ none → F b ≠ none ∨ H b = none ∨ OwnA A b
  s3 : ∀ b, OwnA A' b → OwnA A b ∨ H b = none
  s4 : ∀ b o, H b = some o → (∀ ps, o ≠ .tbl ps) → ¬ OwnA A b → ¬ Bor C b → H' b = some o
  s5 : ∀ b, H b ≠ none → H' b ≠ none
theorem Step.refl {C : Fx} {F H : Hp} {A : Nat → List Addr} : Step C F A H F A H :=
  ⟨fun _ _ h => h, fun _ h => .inl h, fun _ h => .inl h, fun _ _ h _ _ _ => h, fun _ h => h⟩
theorem Step.trans {C : Fx} {F F1 F2 H H1 H2 : Hp} {A A1 A2 : Nat → List Addr} (a : Step C F A H F1 A1 H1) (b : Step C F1 A1 H1 F2 A2 H2) : Step C F A H F2 A2 H2 where
  s1 := a.s1.trans b.s1
  s2 := fun c h => by
    rcases b.s2 c h with q | q | q
    · exact a.s2 c q
    · refine .inr (.inl ?_)
      cases e : H c with
      | none => rfl
      | some o => exact absurd q (a.s5 c (by rw [e]; simp))
    · exact .inr ((a.s3 c q).symm)
  s3 := fun c h => by
    rcases b.s3 c h with q | q
    · exact a.s3 c q
    · refine .inr ?_
      cases e : H c with
      | none => rfl
      | some o => exact absurd q (a.s5 c (by rw [e]; simp))
  s4 := fun c o h nt n m => by
    refine b.s4 c o (a.s4 c o h nt n m) nt (fun q => ?_) m
    rcases a.s3 c q with z | z
    · exact n z
    · rw [h] at z; cases z
  s5 := fun c h => b.s5 c (a.s5 c h)
/-- what an expression comes to -/
inductive Res (α : Type) where
  | ok (a : α) (s : Stt) | ex (c : Str) (v : PV) (s : Stt) | stuck
def Res.bind {α β : Type} : Res α → (α → Stt → Res β) → Res β
  | .ok a s, f => f a s
  | .ex c v s, _ => .ex c v s
  | .stuck, _ => .stuck
@[simp] theorem Res.bind_ok {α β : Type} (a : α) (s : Stt) (f : α → Stt → Res β) : (Res.ok a s).bind f = f a s := rfl
@[simp] theorem Res.bind_ex {α β : Type} (c : Str) (v : PV) (s : Stt) (f : α → Stt → Res β) : (Res.ex c v s : Res α).bind f = .ex c v s := rfl
@[simp] theorem Res.bind_stuck {α β : Type} (f : α → Stt → Res β) : (Res.stuck : Res α).bind f = .stuck := rfl
def Res.opt {α : Type} (s : Stt) : Option α → Res α
  | some a => .ok a s
  | none => .stuck
@[simp] theorem Res.opt_some {α : Type} (a : α) (s : Stt) : Res.opt s (some a) = .ok a s := rfl
@[simp] theorem Res.opt_none {α : Type} (s : Stt) : Res.opt s (none : Option α) = .stuck := rfl
/-- an exception of a class of the program: its dict holds the value -/
def XAt (C : Fx) (F H : Hp) (d : Addr) (v : PV) : Prop := ∃ u, F d = some (.xd [(("value" : Str), u)]) ∧ Rp C F u v
def Post {α β : Type} (C : Fx) (W : WX) (R : Hp → Hp → β → α → Prop) (F : Hp) (A : Nat → List Addr) (H : Hp) (σ : L2.St) (r : Res α) (Q : β → Hp → Prop) : Prop :=
  match r with
  | .ok a s => ∀ v F' A' H', OkF C F' A' H' σ s → Step C F A H F' A' H' → R F' H' v a → Q v H'
  | .ex c p s => ∀ d F' A' H', OkF C F' A' H' σ s → Step C F A H F' A' H' → XAt C F' H' d p → W (.ref (C.cl c)) (some d) σ H'
  | .stuck => False
theorem Post.after {α β : Type} {C : Fx} {W : WX} {R : Hp → Hp → β → α → Prop} {F F1 H H1 : Hp} {A A1 : Nat → List Addr} {σ : L2.St} {r : Res α} {Q : β → Hp → Prop} (st : Step C F A H F1 A1 H1) (p : Post C W R F A H σ r Q) : Post C W R F1 A1 H1 σ r Q := by
  cases r with
  | ok a s => exact fun v F' A' H' o t q => p v F' A' H' o (st.trans t) q
  | ex c v s => exact fun d F' A' H' o t q => p d F' A' H' o (st.trans t) q
  | stuck => exact p
/-- the first part, then the rest -/
theorem Post.seq {α β γ δ : Type} {C : Fx} {W : WX} {R : Hp → Hp → β → α → Prop} {R2 : Hp → Hp → δ → γ → Prop} {F H : Hp} {A : Nat → List Addr} {σ : L2.St} {r : Res α} {f : α → Stt → Res γ} {Q : δ → Hp → Prop} {Q1 : β → Hp → Prop}
    (p : Post C W R2 F A H σ (r.bind f) Q)
    (k : ∀ a s v F' A' H', r = .ok a s → OkF C F' A' H' σ s → Step C F A H F' A' H' → R F' H' v a → Post C W R2 F' A' H' σ (f a s) Q → Q1 v H') : Post C W R F A H σ r Q1 := by
  cases r with
  | ok a s => exact fun v F' A' H' o t q => k a s v F' A' H' rfl o t q (p.after t)
  | ex c v s => exact p
  | stuck => exact p
abbrev RV (C : Fx) : Hp → Hp → V → PV → Prop := fun F _ v p => Rp C F v p
abbrev RVs (C : Fx) : Hp → Hp → List V → List PV → Prop := fun F _ v p => Rps C F v p
abbrev RB : Hp → Hp → Bool → Bool → Prop := fun _ _ b c => b = c
/-- e has the plain value f, and does to the state what f does -/
structure DV (X : Cx) (C : Fx) (W : WX) (e : Expr) (f : Stt → Res PV) : Prop where
  pr : ∃ te, PE X e te ∧ ∀ F A H σ s Q, OkF C F A H σ s → Post C W (RV C) F A H σ (f s) Q → te σ H Q
structure DA (X : Cx) (C : Fx) (W : WX) (es : List Expr) (f : Stt → Res (List PV)) : Prop where
  pr : ∃ te, PA X es te ∧ ∀ F A H σ s Q, OkF C F A H σ s → Post C W (RVs C) F A H σ (f s) Q → te σ H Q
structure DT (X : Cx) (C : Fx) (W : WX) (e : Expr) (f : Stt → Res Bool) : Prop where
  pr : ∃ te, PT X e te ∧ ∀ F A H σ s Q, OkF C F A H σ s → Post C W RB F A H σ (f s) Q → te σ H Q
/-- nothing was changed -/
theorem Post.now {α β : Type} {C : Fx} {W : WX} {R : Hp → Hp → β → α → Prop} {F H : Hp} {A : Nat → List Addr} {σ : L2.St} {s : Stt} {a : α} {v : β} {Q : β → Hp → Prop} (o : OkF C F A H σ s) (p : Post C W R F A H σ (.ok a s) Q) (r : R F H v a) : Q v H :=
  p v F A H o .refl r
/-- a new plain object -/
theorem OkF.alloc {C : Fx} {F H : Hp} {A : Nat → List Addr} {σ : L2.St} {s : Stt} {p : Addr} {o : HO} (k : OkF C F A H σ s) (hp : H p = none) : OkF C (upd F p o) A (upd H p o) σ s ∧ Step C F A H (upd F p o) A (upd H p o) := by
  have hF : F p = none := k.sub.free hp
  have sF : Same F (upd F p o) := fun b u e => by rw [upd_ne (ne_of_none e hF)]; exact e
  have sH : Same H (upd H p o) := fun b u e => by rw [upd_ne (ne_of_none e hp)]; exact e
  have nA : ∀ i, p ∉ A i := fun i z => (k.free i p z).2 hp
  have nB : ∀ q, q < C.nb → p ∉ C.Bf q := fun q hq z => by
    have hm : q < s.mu.length := by rw [k.nb]; exact hq
    exact (k.bor q s.mu[q] (List.getElem?_eq_getElem hm)).there p z hp
  refine ⟨⟨k.len, fun b u e => ?_, fun i v e => ?_, fun i m e => ?_, k.nb, k.lent, fun q m e => ?_, fun i b hb => ?_, k.dis, fun q b hq hb => ?_, k.disB, ⟨k.ext.1.trans sF, k.ext.2.off sF (fun b ps e h => by rw [upd_ne (ne_of_none e hp)]; exact h) fun b o _ => sH b o⟩⟩, ⟨sF, fun b hb => ?_, fun b hb => .inl hb, fun b u e _ _ _ => sH b u e, fun b hb => ?_⟩⟩
  · by_cases hb : b = p
    · subst hb; rw [upd_same] at e ⊢; exact e
    · rw [upd_ne hb] at e ⊢; exact k.sub b u e
  · obtain ⟨u, h1, h2⟩ := k.val i v e
    exact ⟨u, h1, h2.mono sF⟩
  · obtain ⟨u, h1, h2⟩ := k.own i m e
    exact ⟨u, h1, h2.keep sF fun b o _ => sH b o⟩
  · exact (k.bor q m e).keep sF fun b o _ => sH b o
  · obtain ⟨h1, h2⟩ := k.free i b hb
    have hne : b ≠ p := fun z => nA i (z ▸ hb)
    exact ⟨by rw [upd_ne hne]; exact h1, by rw [upd_ne hne]; exact h2⟩
  · obtain ⟨h1, h2⟩ := k.freeB q b hq hb
    have hne : b ≠ p := fun z => nB q hq (z ▸ hb)
    exact ⟨by rw [upd_ne hne]; exact h1, h2⟩
  · by_cases hbp : b = p
    · subst hbp; exact .inr (.inl hp)
    · rw [upd_ne hbp] at hb; exact .inl hb
  · by_cases hbp : b = p
    · subst hbp; rw [upd_same]; simp
    · rw [upd_ne hbp]; exact hb
/-- an operator by plain values -/
def OpD (C : Fx) (r : R2) (op : PV → PV → Option PV) : Prop :=
  ∀ F A H σ s x y p q z (Q : VK), OkF C F A H σ s → Rp C F x p → Rp C F y q → op p q = some z →
    (∀ v F' A' H', OkF C F' A' H' σ s → Step C F A H F' A' H' → Rp C F' v z → Q v H') → r x y H Q
def UnD (C : Fx) (r : V → Hp → VK → Prop) (op : PV → Option PV) : Prop :=
  ∀ F A H σ s x p z (Q : VK), OkF C F A H σ s → Rp C F x p → op p = some z →
    (∀ v F' A' H', OkF C F' A' H' σ s → Step C F A H F' A' H' → Rp C F' v z → Q v H') → r x H Q
def CallD (C : Fx) (r : List V → Hp → VK → Prop) (op : List PV → Option PV) : Prop :=
  ∀ F A H σ s x p z (Q : VK), OkF C F A H σ s → Rps C F x p → op p = some z →
    (∀ v F' A' H', OkF C F' A' H' σ s → Step C F A H F' A' H' → Rp C F' v z → Q v H') → r x H Q
theorem Post.opt {α β : Type} {C : Fx} {W : WX} {R : Hp → Hp → β → α → Prop} {F H : Hp} {A : Nat → List Addr} {σ : L2.St} {s : Stt} {a : Option α} {Q : β → Hp → Prop} (p : Post C W R F A H σ (Res.opt s a) Q) :
    ∃ z, a = some z ∧ ∀ v F' A' H', OkF C F' A' H' σ s → Step C F A H F' A' H' → R F' H' v z → Q v H' := by
  cases a with
  | none => exact False.elim p
  | some z => exact ⟨z, rfl, p⟩
def eBin (op : PV → PV → Option PV) (fa fb : Stt → Res PV) : Stt → Res PV := fun s => (fa s).bind fun p s1 => (fb s1).bind fun q s2 => Res.opt s2 (op p q)
def eUn (op : PV → Option PV) (fa : Stt → Res PV) : Stt → Res PV := fun s => (fa s).bind fun p s1 => Res.opt s1 (op p)
def eC (p : PV) : Stt → Res PV := fun s => .ok p s
def aNil : Stt → Res (List PV) := fun s => .ok [] s
def aCons (fa : Stt → Res PV) (fb : Stt → Res (List PV)) : Stt → Res (List PV) := fun s => (fa s).bind fun p s1 => (fb s1).bind fun q s2 => .ok (p :: q) s2
def eCallB (op : List PV → Option PV) (fa : Stt → Res (List PV)) : Stt → Res PV := fun s => (fa s).bind fun p s1 => Res.opt s1 (op p)
def eVar (i : Nat) : Stt → Res PV := fun s => match s.ro[i]? with
  | some (some (.val v)) => .ok v s
  | _ => .stuck
section
variable {X : Cx} {C : Fx} {W : WX} {a b : Expr} {pos : Pos} {fa fb : Stt → Res PV}
theorem opPost {r : R2} {op : PV → PV → Option PV} {ta tb : TE} (h : OpD C r op)
    (ha : ∀ F A H σ s Q, OkF C F A H σ s → Post C W (RV C) F A H σ (fa s) Q → ta σ H Q) (hb : ∀ F A H σ s Q, OkF C F A H σ s → Post C W (RV C) F A H σ (fb s) Q → tb σ H Q) :
    ∀ F A H σ s Q, OkF C F A H σ s → Post C W (RV C) F A H σ (eBin op fa fb s) Q → tOp r ta tb σ H Q := by
  intro F A H σ s Q o p
  refine ha F A H σ s _ o (p.seq fun q1 s1 v1 F1 A1 H1 _ o1 st1 r1 p1 => ?_)
  refine hb F1 A1 H1 σ s1 _ o1 (p1.seq fun q2 s2 v2 F2 A2 H2 _ o2 st2 r2 p2 => ?_)
  obtain ⟨z, e, k⟩ := Post.opt p2
  exact h F2 A2 H2 σ s2 v1 v2 q1 q2 z Q o2 (r1.mono st2.s1) r2 e k
theorem dv_op {op : Operator} {r : R2} {f : PV → PV → Option PV} (ho : OpR X (binaryOp op) r) (h : OpD C r f) (ha : DV X C W a fa) (hb : DV X C W b fb) : DV X C W (.BinOp a op b pos) (eBin f fa fb) := by
  obtain ⟨ta, pa, qa⟩ := ha.pr
  obtain ⟨tb, pb, qb⟩ := hb.pr
  exact ⟨_, pe_op ho pa pb, opPost h qa qb⟩
theorem dv_cmp {op : CmpOp} {r : R2} {f : PV → PV → Option PV} (ho : OpR X (compareOp op) r) (h : OpD C r f) (ha : DV X C W a fa) (hb : DV X C W b fb) (hm : behindInMarks op b = false) : DV X C W (.Compare a [op] [b] pos) (eBin f fa fb) := by
  obtain ⟨ta, pa, qa⟩ := ha.pr
  obtain ⟨tb, pb, qb⟩ := hb.pr
  exact ⟨_, pe_cmpR ho pa pb hm, opPost h qa qb⟩
theorem dv_un {op : UnaryOp} {r : V → Hp → VK → Prop} {f : PV → Option PV} (ho : UnR X (unaryOp op) r) (h : UnD C r f) (ha : DV X C W a fa) : DV X C W (.UnaryOp op a pos) (eUn f fa) := by
  obtain ⟨ta, pa, qa⟩ := ha.pr
  refine ⟨_, pe_un ho pa, fun F A H σ s Q o p => ?_⟩
  refine qa F A H σ s _ o (p.seq fun q1 s1 v1 F1 A1 H1 _ o1 st1 r1 p1 => ?_)
  obtain ⟨z, e, k⟩ := Post.opt p1
  exact h F1 A1 H1 σ s1 v1 q1 z Q o1 r1 e k
theorem dv_const {e : Expr} {v : V} {p : PV} (h : PE X e (tC v)) (hr : ∀ F, Rp C F v p) : DV X C W e (eC p) :=
  ⟨_, h, fun F A H σ s Q o q => Post.now o q (hr F)⟩
theorem dv_int {i : Int} {j} : DV X C W (.Constant (.int i) j pos) (eC (.int i)) := dv_const pe_int fun _ => .int i
theorem dv_bl {b : Bool} {j} : DV X C W (.Constant (.bool b) j pos) (eC (.bl b)) := dv_const pe_bl fun _ => .bl b
theorem dv_non {j} : DV X C W (.Constant .none j pos) (eC .non) := dv_const pe_non fun _ => .non
theorem dv_str {x : Str} {j} : DV X C W (.Constant (.str x) j pos) (eC (.str x)) := dv_const pe_str fun _ => .str x
theorem dv_var (i : Nat) {x : Str} (hN : X.N[i]? = some x := by rfl) (hv : Vis X.env.scope x := by first | exact Or.inl rfl | exact Or.inr (Or.inl rfl) | exact Or.inr (Or.inr rfl)) (hd : (x == ("__debug__" : Str)) = false := by decide)
    (hcd : (x == ("__classdict__" : Str)) = false := by decide) : DV X C W (.Name x pos) (eVar i) := by
  refine ⟨_, pe_var hN hv hd hcd, fun F A H σ s Q o p => ?_⟩
  unfold eVar at p
  cases e : s.ro[i]? with
  | none => rw [e] at p; exact False.elim p
  | some z =>
    cases z with
    | none => rw [e] at p; exact False.elim p
    | some w =>
      cases w with
      | own m => rw [e] at p; exact False.elim p
      | bor m => rw [e] at p; exact False.elim p
      | val v =>
        rw [e] at p
        obtain ⟨u, h1, h2⟩ := o.val i v e
        exact ⟨u, h1, Post.now o p h2⟩
theorem da_nil : DA X C W [] aNil := ⟨_, pa_nil, fun F A H σ s Q o p => Post.now o p .nil⟩
theorem da_cons {es : List Expr} {fs : Stt → Res (List PV)} (ha : DV X C W a fa) (hs : DA X C W es fs) (he : starEach (a :: es) X.env = (false, eval a X.env) :: starEach es X.env := by rfl) : DA X C W (a :: es) (aCons fa fs) := by
  obtain ⟨ta, pa, qa⟩ := ha.pr
  obtain ⟨tb, pb, qb⟩ := hs.pr
  refine ⟨_, pa_cons pa pb he, fun F A H σ s Q o p => ?_⟩
  refine qa F A H σ s _ o (p.seq fun q1 s1 v1 F1 A1 H1 _ o1 st1 r1 p1 => ?_)
  refine qb F1 A1 H1 σ s1 _ o1 (p1.seq fun q2 s2 v2 F2 A2 H2 _ o2 st2 r2 p2 => ?_)
  exact Post.now o2 p2 (.cons (r1.mono st2.s1) r2)
theorem dv_callB {x : Str} {p : Pos} {es : List Expr} {id : String} {fs : Stt → Res (List PV)} {r : List V → Hp → VK → Prop} {f : List PV → Option PV} (hc : CallR X (.builtin id) r) (h : CallD C r f) (hg : Gl X x) (hm : X.mg x = none) (hv : bootBuiltins x = some (.builtin id)) (ha : DA X C W (a :: es) fs)
    (hn : x ≠ "__name__" := by decide) (hdb : (x == ("__debug__" : Str)) = false := by decide) (he : starEach (a :: es) X.env = (false, eval a X.env) :: starEach es X.env := by rfl) (hpl : (backTo pos (starEach es X.env)).any (·.1) = false := by rfl) :
    DV X C W (.Call (.Name x p) (a :: es) [] pos) (eCallB f fs) := by
  obtain ⟨ta, pa, qa⟩ := ha.pr
  refine ⟨_, pe_callB hc hg hm hv pa hn hdb he hpl, fun F A H σ s Q o p => ?_⟩
  refine qa F A H σ s _ o (p.seq fun q1 s1 v1 F1 A1 H1 _ o1 st1 r1 p1 => ?_)
  obtain ⟨z, e, k⟩ := Post.opt p1
  exact h F1 A1 H1 σ s1 v1 q1 z Q o1 r1 e k
end
end PL
/-! PL2: statements, targets, loops, a def's promise, its call. -/
namespace PL
open PySem PySem.Spec PyProof.Rows L2
/-- how a statement ends -/
inductive Fl where
  | nx (s : Stt) | rt (v : PV) (s : Stt) | rto (m : MO) (s : Stt) | bk (s : Stt) | ct (s : Stt) | ex (c : Str) (v : PV) (s : Stt) | stuck
/-- a fresh object that nobody else knows, at p -/
def Fresh (C : Fx) (F : Hp) (A : Nat → List Addr) (H F' : Hp) (A' : Nat → List Addr) (H' : Hp) (p : Addr) (m : MO) : Prop :=
  ∃ fp, MAt C F' H' p fp m ∧ ∀ b, b ∈ fp → F' b = none ∧ ¬ OwnA A' b ∧ ¬ Bor C b ∧ (H b = none ∨ OwnA A b)
def PostS (C : Fx) (W : WX) (F : Hp) (A : Nat → List Addr) (H : Hp) (D : Ends) : Fl → Prop
  | .nx s => ∀ σ F' A' H', OkF C F' A' H' σ s → Step C F A H F' A' H' → D.nx σ H'
  | .bk s => ∀ σ F' A' H', OkF C F' A' H' σ s → Step C F A H F' A' H' → D.bk σ H'
  | .ct s => ∀ σ F' A' H', OkF C F' A' H' σ s → Step C F A H F' A' H' → D.ct σ H'
  | .rt v s => ∀ u σ F' A' H', OkF C F' A' H' σ s → Step C F A H F' A' H' → Rp C F' u v → D.rt u H'
  | .rto m s => ∀ p σ F' A' H', OkF C F' A' H' σ s → Step C F A H F' A' H' → Fresh C F A H F' A' H' p m → D.rt (.ref p) H'
  | .ex c v s => ∀ d σ F' A' H', OkF C F' A' H' σ s → Step C F A H F' A' H' → XAt C F' H' d v → W (.ref (C.cl c)) (some d) σ H'
  | .stuck => False
theorem Fresh.after {C : Fx} {F F1 F' H H1 H' : Hp} {A A1 A' : Nat → List Addr} {p : Addr} {m : MO} (st : Step C F A H F1 A1 H1) (f : Fresh C F1 A1 H1 F' A' H' p m) : Fresh C F A H F' A' H' p m := by
  obtain ⟨fp, h, k⟩ := f
  refine ⟨fp, h, fun b hb => ?_⟩
  obtain ⟨k1, k2, k3, k4⟩ := k b hb
  refine ⟨k1, k2, k3, ?_⟩
  rcases k4 with q | q
  · left
    cases e : H b with
    | none => rfl
    | some o => exact absurd q (st.s5 b (by rw [e]; simp))
  · exact (st.s3 b q).symm
theorem PostS.after {C : Fx} {W : WX} {F F1 H H1 : Hp} {A A1 : Nat → List Addr} {D : Ends} {r : Fl} (st : Step C F A H F1 A1 H1) (p : PostS C W F A H D r) : PostS C W F1 A1 H1 D r := by
  cases r with
  | nx s => exact fun σ F' A' H' o t => p σ F' A' H' o (st.trans t)
  | bk s => exact fun σ F' A' H' o t => p σ F' A' H' o (st.trans t)
  | ct s => exact fun σ F' A' H' o t => p σ F' A' H' o (st.trans t)
  | rt v s => exact fun u σ F' A' H' o t q => p u σ F' A' H' o (st.trans t) q
  | rto m s => exact fun u σ F' A' H' o t q => p u σ F' A' H' o (st.trans t) (q.after st)
  | ex c v s => exact fun d σ F' A' H' o t q => p d σ F' A' H' o (st.trans t) q
  | stuck => exact p
/-- other ends -/
theorem PostS.mono {C : Fx} {W : WX} {F H : Hp} {A : Nat → List Addr} {D D' : Ends} {r : Fl} (hn : ∀ s, r = .nx s → PostS C W F A H D (.nx s) → PostS C W F A H D' (.nx s)) (hb : ∀ s, r = .bk s → PostS C W F A H D (.bk s) → PostS C W F A H D' (.bk s)) (hc : ∀ s, r = .ct s → PostS C W F A H D (.ct s) → PostS C W F A H D' (.ct s))
    (hr : D'.rt = D.rt) (p : PostS C W F A H D r) : PostS C W F A H D' r := by
  cases r with
  | nx s => exact hn s rfl p
  | bk s => exact hb s rfl p
  | ct s => exact hc s rfl p
  | rt v s => intro u σ F' A' H' o t q; rw [hr]; exact p u σ F' A' H' o t q
  | rto m s => intro u σ F' A' H' o t q; rw [hr]; exact p u σ F' A' H' o t q
  | ex c v s => exact p
  | stuck => exact p
structure DS (X : Cx) (C : Fx) (W : WX) (st : Stmt) (g : Stt → Fl) : Prop where
  pr : ∃ ts, PS X st ts ∧ ∀ F A H σ s D, OkF C F A H σ s → PostS C W F A H D (g s) → ts D σ H
structure DSs (X : Cx) (C : Fx) (W : WX) (st : List Stmt) (g : Stt → Fl) : Prop where
  pr : ∃ ts, PSs X st ts ∧ ∀ F A H σ s D, OkF C F A H σ s → PostS C W F A H D (g s) → ts D σ H
/-- slots that vs does not tell are as they were -/
def SameOut (vs : Nat → Bool) (σ σ' : L2.St) : Prop := σ'.length = σ.length ∧ ∀ i, vs i = false → σ'[i]? = σ[i]?
theorem SameOut.refl (vs : Nat → Bool) (σ : L2.St) : SameOut vs σ σ := ⟨rfl, fun _ _ => rfl⟩
theorem SameOut.trans {vs : Nat → Bool} {σ σ1 σ2 : L2.St} (a : SameOut vs σ σ1) (b : SameOut vs σ1 σ2) : SameOut vs σ σ2 := ⟨b.1.trans a.1, fun i h => (b.2 i h).trans (a.2 i h)⟩
abbrev anyV : Nat → Bool := fun _ => true
/-- a target: what the store makes of the state -/
structure DG (X : Cx) (C : Fx) (vs : Nat → Bool) (tg : Expr) (a : PV → Stt → Option Stt) : Prop where
  pr : ∃ t, PG X tg t ∧ ∀ F A H σ s x p s' Q, OkF C F A H σ s → Rp C F x p → a p s = some s' → (∀ σ' F' A' H', OkF C F' A' H' σ' s' → Step C F A H F' A' H' → SameOut vs σ σ' → Q σ' H') → t x σ H Q
def setV (i : Nat) (p : PV) (s : Stt) : Stt := ⟨s.ro.set i (some (.val p)), s.mu⟩
def setO (i : Nat) (m : MO) (s : Stt) : Stt := ⟨s.ro.set i (some (.own m)), s.mu⟩
def dropA (A : Nat → List Addr) (i : Nat) : Nat → List Addr := fun j => if j = i then [] else A j
def putA (A : Nat → List Addr) (i : Nat) (fp : List Addr) : Nat → List Addr := fun j => if j = i then fp else A j
section
variable {C : Fx} {F H : Hp} {A : Nat → List Addr} {σ : L2.St} {s : Stt}
theorem OkF.setV {i : Nat} {u : V} {p : PV} (o : OkF C F A H σ s) (r : Rp C F u p) : OkF C F (dropA A i) H (σ.set i (some u)) (setV i p s) ∧ Step C F A H F (dropA A i) H := by
  have sub : ∀ j b, b ∈ dropA A i j → b ∈ A j := fun j b hb => by
    unfold dropA at hb
    split at hb
    · cases hb
    · exact hb
  refine ⟨⟨by simp [PL.setV, o.len], o.sub, fun j v e => ?_, fun j m e => ?_, o.nb, fun j k e => ?_, o.bor, fun j b hb => o.free j b (sub j b hb), fun j l b hj hl => o.dis j l b (sub _ _ hj) (sub _ _ hl), fun k b hk hb => ?_, o.disB, o.ext⟩, ⟨fun _ _ h => h, fun _ h => .inl h, fun b hb => ?_, fun _ _ h _ _ _ => h, fun _ h => h⟩⟩
  · unfold PL.setV at e
    by_cases hj : i = j
    · subst hj
      have hl : i < s.ro.length := by
        cases z : (s.ro.set i (some (SV.val p)))[i]? with
        | none => simp only [z] at e; cases e
        | some _ => have := (List.getElem?_eq_some_iff.mp z).1; rwa [List.length_set] at this
      simp only [List.getElem?_set_self hl] at e
      cases e
      exact ⟨u, List.getElem?_set_self (by rw [o.len]; exact hl), r⟩
    · simp only [List.getElem?_set_ne hj] at e ⊢
      exact o.val j v e
  · unfold PL.setV at e
    by_cases hj : i = j
    · subst hj
      have hl : i < s.ro.length := by
        cases z : (s.ro.set i (some (SV.val p)))[i]? with
        | none => simp only [z] at e; cases e
        | some _ => have := (List.getElem?_eq_some_iff.mp z).1; rwa [List.length_set] at this
      simp only [List.getElem?_set_self hl] at e
      cases e
    · simp only [List.getElem?_set_ne hj] at e ⊢
      unfold dropA
      rw [if_neg (Ne.symm hj)]
      exact o.own j m e
  · unfold PL.setV at e
    by_cases hj : i = j
    · subst hj
      have hl : i < s.ro.length := by
        cases z : (s.ro.set i (some (SV.val p)))[i]? with
        | none => simp only [z] at e; cases e
        | some _ => have := (List.getElem?_eq_some_iff.mp z).1; rwa [List.length_set] at this
      simp only [List.getElem?_set_self hl] at e
      cases e
    · simp only [List.getElem?_set_ne hj] at e ⊢
      exact o.lent j k e
  · exact ⟨(o.freeB k b hk hb).1, fun j z => (o.freeB k b hk hb).2 j (sub _ _ z)⟩
  · obtain ⟨j, hj⟩ := hb
    exact .inl ⟨j, sub _ _ hj⟩
/-- a fresh object goes to a slot -/
theorem OkF.setO {F0 H0 : Hp} {A0 : Nat → List Addr} {i : Nat} {p : Addr} {m : MO} (o : OkF C F A H σ s) (st : Step C F0 A0 H0 F A H) (f : Fresh C F0 A0 H0 F A H p m) (hi : i < s.ro.length) : ∃ A', OkF C F A' H (σ.set i (some (.ref p))) (setO i m s) ∧ Step C F0 A0 H0 F A' H := by
  obtain ⟨fp, hm, hf⟩ := f
  have cases' : ∀ j b, b ∈ putA A i fp j → (j = i ∧ b ∈ fp) ∨ (j ≠ i ∧ b ∈ A j) := fun j b hb => by
    unfold putA at hb
    split at hb
    · exact .inl ⟨by assumption, hb⟩
    · exact .inr ⟨by assumption, hb⟩
  refine ⟨putA A i fp, ⟨by simp [PL.setO, o.len], o.sub, fun j v e => ?_, fun j m' e => ?_, o.nb, fun j k e => ?_, o.bor, fun j b hb => ?_, fun j l b hj hl => ?_, fun k b hk hb => ?_, o.disB, o.ext⟩, ⟨st.s1, st.s2, fun b hb => ?_, st.s4, st.s5⟩⟩
  · unfold PL.setO at e
    by_cases hj : i = j
    · subst hj
      simp only [List.getElem?_set_self hi] at e
      cases e
    · simp only [List.getElem?_set_ne hj] at e ⊢
      exact o.val j v e
  · unfold PL.setO at e
    by_cases hj : i = j
    · subst hj
      simp only [List.getElem?_set_self hi] at e
      cases e
      refine ⟨p, List.getElem?_set_self (by rw [o.len]; exact hi), ?_⟩
      unfold putA
      rw [if_pos rfl]
      exact hm
    · simp only [List.getElem?_set_ne hj] at e ⊢
      unfold putA
      rw [if_neg (Ne.symm hj)]
      exact o.own j m' e
  · unfold PL.setO at e
    by_cases hj : i = j
    · subst hj
      simp only [List.getElem?_set_self hi] at e
      cases e
    · simp only [List.getElem?_set_ne hj] at e ⊢
      exact o.lent j k e
  · rcases cases' j b hb with ⟨_, h⟩ | ⟨_, h⟩
    · exact ⟨(hf b h).1, hm.there b h⟩
    · exact o.free j b h
  · rcases cases' j b hj with ⟨e1, h1⟩ | ⟨e1, h1⟩
    · rcases cases' l b hl with ⟨e2, h2⟩ | ⟨e2, h2⟩
      · rw [e1, e2]
      · exact absurd ⟨l, h2⟩ (hf b h1).2.1
    · rcases cases' l b hl with ⟨e2, h2⟩ | ⟨e2, h2⟩
      · exact absurd ⟨j, h1⟩ (hf b h2).2.1
      · exact o.dis j l b h1 h2
  · refine ⟨(o.freeB k b hk hb).1, fun j z => ?_⟩
    rcases cases' j b z with ⟨_, h⟩ | ⟨_, h⟩
    · exact (hf b h).2.2.1 ⟨k, hk, hb⟩
    · exact (o.freeB k b hk hb).2 j h
  · obtain ⟨j, hj⟩ := hb
    rcases cases' j b hj with ⟨_, h⟩ | ⟨_, h⟩
    · exact (hf b h).2.2.2.symm
    · exact st.s3 b ⟨j, h⟩
/-- the slots forgotten -/
theorem OkF.forget (o : OkF C F A H σ s) : OkF C F (fun _ => []) H [] ⟨[], s.mu⟩ :=
  ⟨rfl, o.sub, fun i v e => by simp at e, fun i m e => by simp at e, o.nb, fun i k e => by simp at e, o.bor, fun _ _ h => absurd h (by simp), fun _ _ _ h _ => absurd h (by simp), fun k b hk hb => ⟨(o.freeB k b hk hb).1, fun _ h => absurd h (by simp)⟩, o.disB, o.ext⟩
end
/-! ### statements -/
def gSeq (g h : Stt → Fl) : Stt → Fl := fun s => match g s with
  | .nx s1 => h s1
  | .rt v s1 => .rt v s1
  | .rto m s1 => .rto m s1
  | .bk s1 => .bk s1
  | .ct s1 => .ct s1
  | .ex c v s1 => .ex c v s1
  | .stuck => .stuck
def gNop : Stt → Fl := .nx
def Res.fl {α : Type} : Res α → (α → Stt → Fl) → Fl
  | .ok a s, f => f a s
  | .ex c v s, _ => .ex c v s
  | .stuck, _ => .stuck
@[simp] theorem Res.fl_ok {α : Type} (a : α) (s : Stt) (f : α → Stt → Fl) : (Res.ok a s).fl f = f a s := rfl
@[simp] theorem Res.fl_ex {α : Type} (c : Str) (v : PV) (s : Stt) (f : α → Stt → Fl) : (Res.ex c v s : Res α).fl f = .ex c v s := rfl
@[simp] theorem Res.fl_stuck {α : Type} (f : α → Stt → Fl) : (Res.stuck : Res α).fl f = .stuck := rfl
def gOpt : Option Stt → Fl
  | some s => .nx s
  | none => .stuck
def gAsg (fe : Stt → Res PV) (a : PV → Stt → Option Stt) : Stt → Fl := fun s => (fe s).fl fun p s1 => gOpt (a p s1)
def gRet (fe : Stt → Res PV) : Stt → Fl := fun s => (fe s).fl fun p s1 => .rt p s1
def gDrop (fe : Stt → Res PV) : Stt → Fl := fun s => (fe s).fl fun _ s1 => .nx s1
def gIf (ft : Stt → Res Bool) (g h : Stt → Fl) : Stt → Fl := fun s => (ft s).fl fun b s1 => if b = true then g s1 else h s1
def aName (i : Nat) : PV → Stt → Option Stt := fun p s => some (setV i p s)
def asNil : List PV → Stt → Option Stt
  | [], s => some s
  | _ :: _, _ => none
def asCons (a : PV → Stt → Option Stt) (b : List PV → Stt → Option Stt) : List PV → Stt → Option Stt
  | p :: ps, s => (a p s).bind fun s1 => b ps s1
  | [], _ => none
def aTup (n : Nat) (b : List PV → Stt → Option Stt) : PV → Stt → Option Stt
  | .tup l, s => if l.length = n then b l s else none
  | _, _ => none
/-- as Post.seq, into a statement -/
theorem PostS.seq {α β : Type} {C : Fx} {W : WX} {R : Hp → Hp → β → α → Prop} {F H : Hp} {A : Nat → List Addr} {σ : L2.St} {D : Ends} {r : Res α} {f : α → Stt → Fl} {Q1 : β → Hp → Prop}
    (p : PostS C W F A H D (r.fl f))
    (k : ∀ a s v F' A' H', r = .ok a s → OkF C F' A' H' σ s → Step C F A H F' A' H' → R F' H' v a → PostS C W F' A' H' D (f a s) → Q1 v H') : Post C W R F A H σ r Q1 := by
  cases r with
  | ok a s => exact fun v F' A' H' o t q => k a s v F' A' H' rfl o t q (p.after t)
  | ex c v s => exact fun d F' A' H' o t q => p d σ F' A' H' o t q
  | stuck => exact p
section
variable {X : Cx} {C : Fx} {W : WX} {st : Stmt} {sts : List Stmt} {e tg : Expr} {es tgs : List Expr} {pos : Pos} {fe : Stt → Res PV} {g h : Stt → Fl}
theorem dss_nil : DSs X C W [] gNop := ⟨_, pss_nil, fun F A H σ s D o p => p σ F A H o .refl⟩
theorem dss_cons (h1 : DS X C W st g) (h2 : DSs X C W sts h) : DSs X C W (st :: sts) (gSeq g h) := by
  obtain ⟨t1, p1, q1⟩ := h1.pr
  obtain ⟨t2, p2, q2⟩ := h2.pr
  refine ⟨_, pss_cons p1 p2, fun F A H σ s D o p => ?_⟩
  show t1 { D with nx := t2 D } σ H
  refine q1 F A H σ s _ o ?_
  unfold gSeq at p
  cases e : g s with
  | nx s1 =>
    rw [e] at p
    exact fun σ1 F1 A1 H1 o1 st1 => q2 F1 A1 H1 σ1 s1 D o1 (p.after st1)
  | rt v s1 => rw [e] at p; exact p
  | rto v s1 => rw [e] at p; exact p
  | bk s1 => rw [e] at p; exact p
  | ct s1 => rw [e] at p; exact p
  | ex c v s1 => rw [e] at p; exact p
  | stuck => rw [e] at p; exact p
theorem ds_ret (he : DV X C W e fe) : DS X C W (.Return (some e) pos) (gRet fe) := by
  obtain ⟨te, pe, qe⟩ := he.pr
  refine ⟨_, ps_ret pe, fun F A H σ s D o p => ?_⟩
  exact qe F A H σ s _ o (PostS.seq p fun a s1 v F1 A1 H1 _ o1 st1 r1 p1 => p1 v σ F1 A1 H1 o1 .refl r1)
theorem ds_if {c : Expr} {a b : List Stmt} {fc : Stt → Res Bool} (hc : DT X C W c fc) (ha : DSs X C W a g) (hb : DSs X C W b h) : DS X C W (.If c a b pos) (gIf fc g h) := by
  obtain ⟨tc, pc, qc⟩ := hc.pr
  obtain ⟨ta, pa, qa⟩ := ha.pr
  obtain ⟨tb, pb, qb⟩ := hb.pr
  refine ⟨_, ps_if pc pa pb, fun F A H σ s D o p => ?_⟩
  refine qc F A H σ s _ o (PostS.seq p fun a s1 v F1 A1 H1 _ o1 st1 r1 p1 => ?_)
  obtain rfl : v = a := r1
  cases v with
  | true => exact iteT (qa F1 A1 H1 σ s1 D o1 (by simpa using p1))
  | false => exact iteF (qb F1 A1 H1 σ s1 D o1 (by simpa using p1))
theorem dg_name {vs : Nat → Bool} {i : Nat} {x : Str} (hN : X.N.Nodup) (hi : X.N[i]? = some x) (hx : Loc X.env.scope x) (hf : X.fn x = true ∨ X.env.scope.names.lookup x = some .local := by first | exact .inl rfl | exact .inr rfl | assumption) (hv : vs i = true := by rfl) : DG X C vs (.Name x pos) (aName i) := by
  refine ⟨_, pg_name hN hi hx hf, fun F A H σ s x p s' Q o r e k => ?_⟩
  cases e
  obtain ⟨o1, st1⟩ := o.setV (i := i) r
  exact k _ _ _ _ o1 st1 ⟨by simp, fun j hj => List.getElem?_set_ne (fun e => by rw [e, hj] at hv; cases hv)⟩
theorem ds_set {i : Nat} {x : Str} {pos' : Pos} (hN : X.N.Nodup) (hi : X.N[i]? = some x) (hx : Loc X.env.scope x) (he : DV X C W e fe) (hs : swapsWith e (some (.Name x pos')) pos.line X.env = pure false := by rfl) (hf : X.fn x = true ∨ X.env.scope.names.lookup x = some .local := by first | exact .inl rfl | exact .inr rfl | assumption) :
    DS X C W (.Assign [.Name x pos'] e pos) (gAsg fe (aName i)) := by
  obtain ⟨te, pe, qe⟩ := he.pr
  refine ⟨_, ps_set hN hi hx pe hs hf, fun F A H σ s D o pp => ?_⟩
  refine qe F A H σ s _ o (PostS.seq pp fun a s1 v F1 A1 H1 _ o1 st1 r1 p1 => ?_)
  obtain ⟨o2, st2⟩ := o1.setV (i := i) r1
  exact p1 _ _ _ _ o2 st2
end
end PL
/-! PL3: loops, parallel stores, a def's promise and its call. -/
namespace PL
open PySem PySem.Spec PyProof.Rows L2
/-! ### while -/
/-! ### for -/
def forL (a : PV → Stt → Option Stt) (b : Stt → Fl) : List PV → Stt → Fl
  | [], s => .nx s
  | p :: r, s => match a p s with
    | none => .stuck
    | some s1 => match b s1 with
      | .nx s2 => forL a b r s2
      | .ct s2 => forL a b r s2
      | .bk s2 => .nx s2
      | .rt v s2 => .rt v s2
      | .rto m s2 => .rto m s2
      | .ex c v s2 => .ex c v s2
      | .stuck => .stuck
/-- what a walk gives: the plain values l one by one -/
def RI (C : Fx) : Hp → Hp → It → List PV → Prop := fun F _ J l => ∃ (G : Hp → Prop) (Y : Nat → Hp → V → Hp → Prop), Walk J l.length G Y ∧ (∀ H2, Same F H2 → G H2) ∧
  ∀ i F1 A1 H1 σ s x H2 p, OkF C F1 A1 H1 σ s → Same F F1 → Y i H1 x H2 → l[i]? = some p → ∃ F2, OkF C F2 A1 H2 σ s ∧ Step C F1 A1 H1 F2 A1 H2 ∧ Rp C F2 x p
structure DI (X : Cx) (C : Fx) (W : WX) (tg iter : Expr) (f : Stt → Res (List PV)) : Prop where
  pr : ∃ ti, PI X tg iter ti ∧ ∀ F A H σ s (Q : It → Hp → Prop), OkF C F A H σ s → Post C W (RI C) F A H σ (f s) Q → ti σ H Q
def gFor (fi : Stt → Res (List PV)) (a : PV → Stt → Option Stt) (b : Stt → Fl) : Stt → Fl := fun s => (fi s).fl fun l s1 => forL a b l s1
theorem forL_cons (a : PV → Stt → Option Stt) (b : Stt → Fl) (p : PV) (r : List PV) (s s1 : Stt) (h : a p s = some s1) : forL a b (p :: r) s = match b s1 with
      | .nx s2 => forL a b r s2
      | .ct s2 => forL a b r s2
      | .bk s2 => .nx s2
      | .rt v s2 => .rt v s2
      | .rto m s2 => .rto m s2
      | .ex c v s2 => .ex c v s2
      | .stuck => .stuck := by
  show (match a p s with | none => _ | some s1 => _) = _
  rw [h]
section
variable {X : Cx} {C : Fx} {W : WX} {e tg : Expr} {es tgs : List Expr} {pos : Pos} {fe : Stt → Res PV} {g h : Stt → Fl}
theorem ds_for {iter : Expr} {body : List Stmt} {fi : Stt → Res (List PV)} {a : PV → Stt → Option Stt} (hp : PassesOwn (model X.prog X.w) X.A X.env X.xe) (hc : X.calm = true) (hi : DI X C W tg iter fi) (hg : DG X C anyV tg a) (hb : DSs X C W body g)
    (hs : ∀ x, foldedSetIterable iter X.env x = pure x := by intro _; rfl) : DS X C W (.For tg iter body [] pos) (gFor fi a g) := by
  obtain ⟨ti, pi, qi⟩ := hi.pr
  obtain ⟨tt, pt, qt⟩ := hg.pr
  obtain ⟨tb, pb, qb⟩ := hb.pr
  refine ⟨_, ps_for hp hc pi pt pb hs, fun F A H σ s D o p => ?_⟩
  show ti σ H fun J H1 => _
  refine qi F A H σ s _ o (PostS.seq p fun l s1 J F1 A1 H1 _ o1 st1 r1 p1 => ?_)
  obtain ⟨G, Y, w, hG, hY⟩ := r1
  -- the invariant: the rest of the list is what is left
  refine for_it w (fun i σ2 H2 => ∃ F2 A2 s2, OkF C F2 A2 H2 σ2 s2 ∧ Step C F1 A1 H1 F2 A2 H2 ∧ PostS C W F2 A2 H2 D (forL a g (l.drop i) s2)) ⟨F1, A1, s1, o1, .refl, p1⟩
    (fun i σ2 H2 _ ⟨F2, A2, s2, o2, st2, _⟩ => hG H2 (st2.s1.trans o2.sub)) ?_ ?_
  · rintro i x σ2 H2 H3 hi ⟨F2, A2, s2, o2, st2, p2⟩ y
    have hl : l[i]? = some l[i] := List.getElem?_eq_getElem hi
    obtain ⟨F3, o3, st3, r3⟩ := hY i F2 A2 H2 σ2 s2 x H3 l[i] o2 st2.s1 y hl
    rw [List.drop_eq_getElem_cons hi] at p2
    cases ea : a l[i] s2 with
    | none =>
      have z : forL a g (l[i] :: l.drop (i + 1)) s2 = .stuck := by
        show (match a l[i] s2 with | none => _ | some s1 => _) = _
        rw [ea]
      rw [z] at p2; exact p2.elim
    | some s3 =>
      rw [forL_cons _ _ _ _ _ _ ea] at p2
      refine qt F3 A2 H3 σ2 s2 x l[i] s3 _ o3 r3 ea fun σ4 F4 A4 H4 o4 st4 _ => ?_
      have p4 := p2.after (st3.trans st4)
      have sA := (st2.trans st3).trans st4
      refine qb F4 A4 H4 σ4 s3 _ o4 ?_
      cases e2 : g s3 with
      | nx s5 =>
        rw [e2] at p4
        exact fun σ5 F5 A5 H5 o5 st5 => ⟨F5, A5, s5, o5, sA.trans st5, p4.after st5⟩
      | ct s5 =>
        rw [e2] at p4
        exact fun σ5 F5 A5 H5 o5 st5 => ⟨F5, A5, s5, o5, sA.trans st5, p4.after st5⟩
      | bk s5 => rw [e2] at p4; exact p4
      | rt v s5 => rw [e2] at p4; exact p4
      | rto v s5 => rw [e2] at p4; exact p4
      | ex c v s5 => rw [e2] at p4; exact p4
      | stuck => rw [e2] at p4; exact p4
  · rintro σ2 H2 ⟨F2, A2, s2, o2, st2, p2⟩
    rw [List.drop_of_length_le (Nat.le_refl _)] at p2
    exact p2 σ2 F2 A2 H2 o2 .refl
end
/-! ### what is walked -/
section
variable {X : Cx} {C : Fx} {W : WX} {e tg : Expr} {es tgs : List Expr} {pos : Pos} {fe : Stt → Res PV} {fa : Stt → Res (List PV)}
theorem yat_ok {F : Hp} {xs : List V} {l : List PV} (hr : Rps C F xs l) : ∀ i F1 A1 H1 σ s x H2 p, OkF C F1 A1 H1 σ s → Same F F1 → YAt xs i H1 x H2 → l[i]? = some p → ∃ F2, OkF C F2 A1 H2 σ s ∧ Step C F1 A1 H1 F2 A1 H2 ∧ Rp C F2 x p := by
  rintro i F1 A1 H1 σ s x H2 p o sm ⟨rfl, hx⟩ hp
  obtain ⟨q, e, r⟩ := hr.getV hx
  rw [hp] at e; cases e
  exact ⟨F1, o, .refl, r.mono sm⟩
/-- lo, lo + 1, .. -/
def rng (lo : Int) (n : Nat) : List PV := (List.range n).map fun i : Nat => PV.int (lo + i)
theorem rng_length (lo : Int) (n : Nat) : (rng lo n).length = n := by simp [rng]
/-- held back: the kernel shall not count it -/
noncomputable def inR (j : Int) : Bool := Classical.choose (⟨decide (-(2 ^ 62) ≤ j ∧ j < 2 ^ 62), rfl⟩ : ∃ b : Bool, b = decide (-(2 ^ 62) ≤ j ∧ j < 2 ^ 62))
noncomputable def iRange1 (fa : Stt → Res (List PV)) : Stt → Res (List PV) := fun s => (fa s).bind fun p s1 => match p with
  | [.int j] => if inR j = true then .ok (rng 0 j.toNat) s1 else .stuck
  | _ => .stuck
noncomputable def iRange2 (fa : Stt → Res (List PV)) : Stt → Res (List PV) := fun s => (fa s).bind fun p s1 => match p with
  | [.int i, .int j] => if (inR i && inR j) = true then .ok (rng i (j - i).toNat) s1 else .stuck
  | _ => .stuck
theorem rng_ok {F : Hp} (lo : Int) (n : Nat) : ∀ i F1 A1 H1 σ s x H2 p, OkF C F1 A1 H1 σ s → Same F F1 → YFn (fun i => V.int (lo + (i : Nat))) i H1 x H2 → (rng lo n)[i]? = some p → ∃ F2, OkF C F2 A1 H2 σ s ∧ Step C F1 A1 H1 F2 A1 H2 ∧ Rp C F2 x p := by
  rintro i F1 A1 H1 σ s x H2 p o sm ⟨rfl, rfl⟩ hp
  unfold rng at hp
  rw [List.getElem?_map] at hp
  cases e : (List.range n)[i]? with
  | none => rw [e] at hp; cases hp
  | some k =>
    rw [e] at hp
    obtain ⟨h1, h2⟩ := List.getElem?_eq_some_iff.mp e
    rw [List.getElem_range] at h2
    subst h2
    cases hp
    exact ⟨F1, o, .refl, .int _⟩
end
/-! ### a def's promise -/
/-- what a def comes to: a value, or a fresh object, and what the lent objects hold then -/
inductive FRes where
  | ok (v : PV) (mu : List MO) | own (m : MO) (mu : List MO) | ex (c : Str) (v : PV) (mu : List MO) | stuck
def noA : Nat → List Addr := fun _ => []
/-- the arguments: plain values, or lent objects -/
inductive RpA (C : Fx) (F : Hp) : List V → List SV → Prop
  | nil : RpA C F [] []
  | val {v : V} {p : PV} {vs : List V} {ps : List SV} : Rp C F v p → RpA C F vs ps → RpA C F (v :: vs) (.val p :: ps)
  | bor {k : Nat} {vs : List V} {ps : List SV} : k < C.nb → RpA C F vs ps → RpA C F (.ref (C.be k) :: vs) (.bor k :: ps)
theorem RpA.length {C : Fx} {F : Hp} {vs : List V} {ps : List SV} (h : RpA C F vs ps) : vs.length = ps.length := by
  induction h with
  | nil => rfl
  | val _ _ ih => simp [ih]
  | bor _ _ ih => simp [ih]
theorem RpA.at {C : Fx} {F : Hp} : ∀ {vs : List V} {ps : List SV} {i : Nat} {p : SV}, RpA C F vs ps → ps[i]? = some p → ∃ v, vs[i]? = some v ∧ ((∃ q, p = .val q ∧ Rp C F v q) ∨ ∃ k, p = .bor k ∧ k < C.nb ∧ v = .ref (C.be k))
  | _, _, _, _, .nil, e => by simp at e
  | _, _, 0, _, .val r _, e => by simp at e; subst e; exact ⟨_, rfl, .inl ⟨_, rfl, r⟩⟩
  | _, _, 0, _, .bor r _, e => by simp at e; subst e; exact ⟨_, rfl, .inr ⟨_, rfl, r, rfl⟩⟩
  | _, _, i + 1, _, .val _ t, e => by
    obtain ⟨v, h1, h2⟩ := RpA.at (i := i) t (by simpa using e)
    exact ⟨v, by simpa using h1, h2⟩
  | _, _, i + 1, _, .bor _ t, e => by
    obtain ⟨v, h1, h2⟩ := RpA.at (i := i) t (by simpa using e)
    exact ⟨v, by simpa using h1, h2⟩
def PostF (C : Fx) (F H : Hp) (Q : VK) (E : XK) : FRes → Prop
  | .ok v mu => ∀ u F' H', OkF C F' noA H' [] ⟨[], mu⟩ → Step C F noA H F' noA H' → Rp C F' u v → Q u H'
  | .own m mu => ∀ p F' H', OkF C F' noA H' [] ⟨[], mu⟩ → Step C F noA H F' noA H' → Fresh C F noA H F' noA H' p m → Q (.ref p) H'
  | .ex c v mu => ∀ d F' H', OkF C F' noA H' [] ⟨[], mu⟩ → Step C F noA H F' noA H' → XAt C F' H' d v → E (.ref (C.cl c)) (some d) H'
  | .stuck => False
/-- the promise: m tells all -/
def spOf (K : PySem.W.Frag) (cl : Str → Addr) (n : Nat) (m : List SV → List MO → FRes) : Sp := fun vs H Q E => vs.length = n ∧ ∃ C F ps mu, C.K = K ∧ C.cl = cl ∧ OkF C F noA H [] ⟨[], mu⟩ ∧ RpA C F vs ps ∧ PostF C F H Q E (m ps mu)
/-- from the body's end -/
def endF : Fl → FRes
  | .nx s => .ok .non s.mu
  | .rt v s => .ok v s.mu
  | .rto m s => .own m s.mu
  | .ex c v s => .ex c v s.mu
  | _ => .stuck
def start0 (n : Nat) (ps : List SV) (mu : List MO) : Stt := ⟨ps.map some ++ List.replicate (n - ps.length) none, mu⟩
def mOf (n : Nat) (g : Stt → Fl) : List SV → List MO → FRes := fun ps mu => endF (g (start0 n ps mu))
theorem okF_start {C : Fx} {F H : Hp} {N : List Str} {vs : List V} {ps : List SV} {mu : List MO} (o : OkF C F noA H [] ⟨[], mu⟩) (r : RpA C F vs ps) : OkF C F noA H (L2.start N vs) (start0 N.length ps mu) := by
  have key : ∀ (i : Nat) (x : SV), (start0 N.length ps mu).ro[i]? = some (some x) → ps[i]? = some x := fun i x e => by
    unfold start0 at e
    simp only at e
    by_cases hi : i < (ps.map some).length
    · rw [List.getElem?_append_left hi, List.getElem?_map] at e
      cases z : ps[i]? with
      | none => rw [z] at e; cases e
      | some y => rw [z] at e; cases e; rfl
    · rw [List.getElem?_append_right (Nat.le_of_not_lt hi), List.getElem?_replicate] at e
      split at e <;> cases e
  have st : ∀ (i : Nat) (v : V), vs[i]? = some v → (L2.start N vs)[i]? = some (some v) := fun i v e => by
    unfold L2.start
    have hi : i < vs.length := (List.getElem?_eq_some_iff.mp e).1
    rw [List.getElem?_append_left (by simpa using hi), List.getElem?_map, e]
    rfl
  refine ⟨?_, o.sub, fun i v e => ?_, fun i m e => ?_, o.nb, fun i k e => ?_, o.bor, fun _ _ h => absurd h (by simp [noA]), fun _ _ _ h _ => absurd h (by simp [noA]), o.freeB, o.disB, o.ext⟩
  · unfold L2.start start0
    simp only [List.length_append, List.length_map, List.length_replicate, r.length]
  · obtain ⟨u, h1, h2⟩ := r.at (key i _ e)
    rcases h2 with ⟨q, e1, h3⟩ | ⟨k, e1, _⟩
    · cases e1; exact ⟨u, st i u h1, h3⟩
    · cases e1
  · obtain ⟨u, h1, h2⟩ := r.at (key i _ e)
    rcases h2 with ⟨q, e1, h3⟩ | ⟨k, e1, _⟩ <;> cases e1
  · obtain ⟨u, h1, h2⟩ := r.at (key i _ e)
    rcases h2 with ⟨q, e1, h3⟩ | ⟨k', e1, h3, h4⟩
    · cases e1
    · cases e1; subst h4; exact ⟨st i _ h1, h3⟩
theorem Step.forget {C : Fx} {F H F' H' : Hp} {A' : Nat → List Addr} (st : Step C F noA H F' A' H') : Step C F noA H F' noA H' :=
  ⟨st.s1, st.s2, fun b ⟨i, h⟩ => absurd h (by simp [noA]), st.s4, st.s5⟩
theorem postF_end {C : Fx} {W : WX} {F H : Hp} {Q : VK} {E : XK} {r : Fl} (hW : ∀ c d σ H, E c d H → W c d σ H) (p : PostF C F H Q E (endF r)) : PostS C W F noA H { nx := fun _ H' => Q .non H', rt := Q } r := by
  cases r with
  | nx s => exact fun σ F' A' H' o st => p .non F' H' o.forget st.forget .non
  | rt v s => exact fun u σ F' A' H' o st r => p u F' H' o.forget st.forget r
  | rto m s =>
    refine fun q σ F' A' H' o st f => p q F' H' o.forget st.forget ?_
    obtain ⟨fp, h1, h2⟩ := f
    refine ⟨fp, h1, fun b hb => ?_⟩
    obtain ⟨k1, k2, k3, k4⟩ := h2 b hb
    exact ⟨k1, fun ⟨i, z⟩ => absurd z (by simp [noA]), k3, k4⟩
  | ex c v s => exact fun d σ F' A' H' o st x => hW _ _ _ _ (p d F' H' o.forget st.forget x)
  | bk s => exact p.elim
  | ct s => exact p.elim
  | stuck => exact p.elim
section
variable {P : Program} {w : World} {K : PySem.W.Frag} {mg : Str → Option Value} {base : Heap} {cl : Str → Addr}
/-- what a body's derivation may use -/
structure Bd (X : Cx) (W : WX) : Prop where
  calm : X.calm = true
  own : PassesOwn (model X.prog X.w) X.A X.env X.xe
  tk : Takes X W
  hd : X.A.handled = none
  gu : X.A.guards = some []
abbrev FnP (P : Program) (w : World) (K : PySem.W.Frag) (mg : Str → Option Value) (base : Heap) (cl : Str → Addr) (k : Nat) (f : Addr) (fd : FuncData) (ps : List Str) (m : List SV → List MO → FRes) : Prop := FnG P w K mg base (L2.CX P w) k f fd ps (spOf K cl ps.length m)
/-- THE RULE for a def -/
theorem fnp {x qual : Str} {st : Stmt} {f : Addr} {fd : FuncData} {N ps : List Str} {k n : Nat} {g : Stt → Fl} (F : Fun K x qual st f fd) (S : FnScope N ps (defScope st)) (hn : N.length = n)
    (hbody : ∀ (cdv : Value) (A : Around) (outer : List Env) (s : Shared) (H : Hp) (E : XK) (C : Fx), C.K = K → C.cl = cl → Room k (A.deeper (envOfC qual (defScope st) s.heap.objs.size f cdv)) →
      Bd (cxOf (L2.CX P w) P w K mg base N qual (defScope st) f cdv A outer s H E) (fun c d _ H => E c d H) →
      DSs (cxOf (L2.CX P w) P w K mg base N qual (defScope st) f cdv A outer s H E) C (fun c d _ H => E c d H) (defBody st) g) : FnP P w K mg base cl (k + 1) f fd ps (mOf n g) := by
  subst hn
  refine fng_of F S (fun vs H Q E h => h.1) (fun cdv A outer s H vs Q E hr gu h => ?_)
  obtain ⟨hl, C, F0, as, mu, hK, hcl, o, r, p⟩ := h
  have bd : Bd (cxOf (L2.CX P w) P w K mg base N qual (defScope st) f cdv A outer s H E) (fun c d _ H => E c d H) := ⟨rfl, passes_of (K := fun e s'' => L2.CX P w outer H s E e s'') rfl, takes_of rfl rfl rfl rfl, hr.hd, gu⟩
  obtain ⟨t, h1, h2⟩ := (hbody cdv A outer s H E C hK hcl hr bd).pr
  exact ⟨t, h1, h2 F0 noA H _ _ _ (okF_start (N := N) o r) (postF_end (fun _ _ _ _ h => h) p)⟩
end
end PL
/-! PL4: fresh objects, calls of defs. -/
namespace PL
open PySem PySem.Spec PyProof.Rows L2
/-! ### fresh objects -/
def PostO (C : Fx) (W : WX) (F : Hp) (A : Nat → List Addr) (H : Hp) (σ : L2.St) (r : Res MO) (Q : VK) : Prop :=
  match r with
  | .ok m s => ∀ p F' A' H', OkF C F' A' H' σ s → Step C F A H F' A' H' → Fresh C F A H F' A' H' p m → Q (.ref p) H'
  | .ex c v s => ∀ d F' A' H', OkF C F' A' H' σ s → Step C F A H F' A' H' → XAt C F' H' d v → W (.ref (C.cl c)) (some d) σ H'
  | .stuck => False
/-- e comes to a fresh object -/
structure DO (X : Cx) (C : Fx) (W : WX) (e : Expr) (f : Stt → Res MO) : Prop where
  pr : ∃ te, PE X e te ∧ ∀ F A H σ s Q, OkF C F A H σ s → PostO C W F A H σ (f s) Q → te σ H Q
theorem PostO.after {C : Fx} {W : WX} {F F1 H H1 : Hp} {A A1 : Nat → List Addr} {σ : L2.St} {r : Res MO} {Q : VK} (st : Step C F A H F1 A1 H1) (p : PostO C W F A H σ r Q) : PostO C W F1 A1 H1 σ r Q := by
  cases r with
  | ok a s => exact fun v F' A' H' o t q => p v F' A' H' o (st.trans t) (q.after st)
  | ex c v s => exact fun d F' A' H' o t q => p d F' A' H' o (st.trans t) q
  | stuck => exact p
theorem PostO.seq {α β : Type} {C : Fx} {W : WX} {R : Hp → Hp → β → α → Prop} {F H : Hp} {A : Nat → List Addr} {σ : L2.St} {r : Res α} {f : α → Stt → Res MO} {Q : VK} {Q1 : β → Hp → Prop}
    (p : PostO C W F A H σ (r.bind f) Q)
    (k : ∀ a s v F' A' H', r = .ok a s → OkF C F' A' H' σ s → Step C F A H F' A' H' → R F' H' v a → PostO C W F' A' H' σ (f a s) Q → Q1 v H') : Post C W R F A H σ r Q1 := by
  cases r with
  | ok a s => exact fun v F' A' H' o t q => k a s v F' A' H' rfl o t q (p.after t)
  | ex c v s => exact p
  | stuck => exact p
/-- a new object that is not known to the plain part -/
theorem OkF.fresh {C : Fx} {F H : Hp} {A : Nat → List Addr} {σ : L2.St} {s : Stt} {p : Addr} {u : HO} {m : MO} (o : OkF C F A H σ s) (hp : H p = none) (hm : MAt C F (upd H p u) p [p] m) : OkF C F A (upd H p u) σ s ∧ Step C F A H F A (upd H p u) ∧ Fresh C F A H F A (upd H p u) p m := by
  have hF : F p = none := o.sub.free hp
  have sH : Same H (upd H p u) := fun b u e => by rw [upd_ne (ne_of_none e hp)]; exact e
  have nA : ∀ i, p ∉ A i := fun i z => (o.free i p z).2 hp
  have nB : ∀ q, q < C.nb → p ∉ C.Bf q := fun q hq z => by
    have hm : q < s.mu.length := by rw [o.nb]; exact hq
    exact (o.bor q s.mu[q] (List.getElem?_eq_getElem hm)).there p z hp
  refine ⟨⟨o.len, o.sub.trans sH, o.val, fun i m e => ?_, o.nb, o.lent, fun q m e => ?_, fun i b hb => ?_, o.dis, o.freeB, o.disB, ⟨o.ext.1, o.ext.2.ext0 sH⟩⟩, ⟨fun _ _ h => h, fun _ h => .inl h, fun _ h => .inl h, fun b x e _ _ _ => sH b x e, fun b hb => ?_⟩, [p], hm, fun b hb => ?_⟩
  · obtain ⟨q, h1, h2⟩ := o.own i m e
    exact ⟨q, h1, h2.keep (fun _ _ h => h) fun b x _ => sH b x⟩
  · exact (o.bor q m e).keep (fun _ _ h => h) fun b x _ => sH b x
  · obtain ⟨h1, h2⟩ := o.free i b hb
    have hne : b ≠ p := fun z => nA i (z ▸ hb)
    exact ⟨h1, by rw [upd_ne hne]; exact h2⟩
  · by_cases hbp : b = p
    · subst hbp; rw [upd_same]; simp
    · rw [upd_ne hbp]; exact hb
  · rw [List.mem_singleton] at hb
    subst hb
    exact ⟨hF, fun ⟨i, z⟩ => nA i z, fun ⟨q, hq, z⟩ => nB q hq z, .inl hp⟩
/-- a fresh list is a plain value from now on -/
theorem OkF.freeze {C : Fx} {F F' H H' : Hp} {A A' : Nat → List Addr} {σ : L2.St} {s : Stt} {p : Addr} {l : List PV} (o : OkF C F' A' H' σ s) (st : Step C F A H F' A' H') (f : Fresh C F A H F' A' H' p (.lst l)) :
    ∃ F2, OkF C F2 A' H' σ s ∧ Step C F A H F2 A' H' ∧ Rp C F2 (.ref p) (.lst l) := by
  obtain ⟨fp, ⟨rfl, xs, hx, hr⟩, hf⟩ := f
  obtain ⟨k1, k2, k3, k4⟩ := hf p List.mem_cons_self
  have sF : Same F' (upd F' p (.lst xs)) := fun b u e => by rw [upd_ne (ne_of_none e k1)]; exact e
  refine ⟨upd F' p (.lst xs), ⟨o.len, fun b u e => ?_, fun i v e => ?_, fun i m e => ?_, o.nb, o.lent, fun q m e => ?_, fun i b hb => ?_, o.dis, fun q b hq hb => ?_, o.disB, ⟨o.ext.1.trans sF, o.ext.2.off sF (fun b ps e h => by rw [upd_ne (fun z => by rw [z, hx] at e; cases e)]; exact h) fun _ _ _ h => h⟩⟩, ⟨st.s1.trans sF, fun b hb => ?_, st.s3, st.s4, st.s5⟩, .lst upd_same (hr.mono sF)⟩
  · by_cases hb : b = p
    · subst hb; rw [upd_same] at e; cases e; exact hx
    · rw [upd_ne hb] at e; exact o.sub b u e
  · obtain ⟨u, h1, h2⟩ := o.val i v e
    exact ⟨u, h1, h2.mono sF⟩
  · obtain ⟨q, h1, h2⟩ := o.own i m e
    exact ⟨q, h1, h2.keep sF fun b x _ h => h⟩
  · exact (o.bor q m e).keep sF fun b x _ h => h
  · obtain ⟨h1, h2⟩ := o.free i b hb
    have hne : b ≠ p := fun z => k2 ⟨i, z ▸ hb⟩
    exact ⟨by rw [upd_ne hne]; exact h1, h2⟩
  · obtain ⟨h1, h2⟩ := o.freeB q b hq hb
    have hne : b ≠ p := fun z => k3 ⟨q, hq, z ▸ hb⟩
    exact ⟨by rw [upd_ne hne]; exact h1, h2⟩
  · by_cases hbp : b = p
    · subst hbp
      rcases k4 with z | z
      · exact .inr (.inl z)
      · exact .inr (.inr z)
    · rw [upd_ne hbp] at hb; exact st.s2 b hb
def frz (f : Stt → Res MO) : Stt → Res PV := fun s => (f s).bind fun m s1 => match m with
  | .lst l => .ok (.lst l) s1
  | _ => .stuck
section
variable {X : Cx} {C : Fx} {W : WX} {e tg : Expr} {es : List Expr} {pos : Pos} {fe : Stt → Res PV} {fo : Stt → Res MO} {fa : Stt → Res (List PV)} {g h : Stt → Fl}
theorem dv_frz (he : DO X C W e fo) : DV X C W e (frz fo) := by
  obtain ⟨te, pe, qe⟩ := he.pr
  refine ⟨te, pe, fun F A H σ s Q o p => qe F A H σ s Q o ?_⟩
  unfold frz at p
  cases hr : fo s with
  | ok m s1 =>
    rw [hr] at p
    cases m with
    | lst l =>
      intro q F' A' H' o1 st1 fr
      obtain ⟨F2, o2, st2, r2⟩ := o1.freeze st1 fr
      exact p _ F2 A' H' o2 st2 r2
    | _ => exact p.elim
  | ex c v s1 => rw [hr] at p; exact p
  | stuck => rw [hr] at p; exact p
def gAsgO (i : Nat) (fo : Stt → Res MO) : Stt → Fl := fun s => (fo s).fl fun m s1 => if i < s1.ro.length then .nx (setO i m s1) else .stuck
theorem ds_setO {i : Nat} {x : Str} {pos' : Pos} (hN : X.N.Nodup) (hi : X.N[i]? = some x) (hx : Loc X.env.scope x) (he : DO X C W e fo) (hs : swapsWith e (some (.Name x pos')) pos.line X.env = pure false := by rfl) (hf : X.fn x = true ∨ X.env.scope.names.lookup x = some .local := by first | exact .inl rfl | exact .inr rfl | assumption) :
    DS X C W (.Assign [.Name x pos'] e pos) (gAsgO i fo) := by
  obtain ⟨te, pe, qe⟩ := he.pr
  refine ⟨_, ps_set hN hi hx pe hs hf, fun F A H σ s D o pp => ?_⟩
  refine qe F A H σ s _ o ?_
  unfold gAsgO at pp
  cases hr : fo s with
  | ok m s1 =>
    rw [hr] at pp
    intro q F' A' H' o1 st1 fr
    simp only [Res.fl] at pp
    split at pp
    · rename_i hl
      obtain ⟨A2, o2, st2⟩ := o1.setO st1 fr hl
      exact pp _ F' A2 H' o2 st2
    · exact pp.elim
  | ex c v s1 => rw [hr] at pp; exact fun d F' A' H' => pp d σ F' A' H'
  | stuck => rw [hr] at pp; exact pp
def gRetO (fo : Stt → Res MO) : Stt → Fl := fun s => (fo s).fl fun m s1 => .rto m s1
theorem ds_retO (he : DO X C W e fo) : DS X C W (.Return (some e) pos) (gRetO fo) := by
  obtain ⟨te, pe, qe⟩ := he.pr
  refine ⟨_, ps_ret pe, fun F A H σ s D o pp => ?_⟩
  refine qe F A H σ s _ o ?_
  unfold gRetO at pp
  cases hr : fo s with
  | ok m s1 =>
    rw [hr] at pp
    exact fun q F' A' H' o1 st1 fr => pp q σ F' A' H' o1 st1 fr
  | ex c v s1 => rw [hr] at pp; exact fun d F' A' H' => pp d σ F' A' H'
  | stuck => rw [hr] at pp; exact pp
/-- displays -/
def eTup (fa : Stt → Res (List PV)) : Stt → Res PV := fun s => (fa s).bind fun l s1 => if l.length ≤ 16777216 then .ok (.tup l) s1 else .stuck
def oLst (fa : Stt → Res (List PV)) : Stt → Res MO := fun s => (fa s).bind fun l s1 => if l.length ≤ 16777216 then .ok (.lst l) s1 else .stuck
theorem line_le {n : Nat} (h : n ≤ 16777216) : n ≤ sizeLine := by rw [sizeLine_eq]; exact h
theorem dv_tup {x1} (ha : DA X C W es fa) : DV X C W (.Tuple es x1 pos) (eTup fa) := by
  obtain ⟨ta, pa, qa⟩ := ha.pr
  refine ⟨_, pe_tup pa, fun F A H σ s Q o p => ?_⟩
  refine qa F A H σ s _ o (p.seq fun l s1 xs F1 A1 H1 _ o1 st1 r1 p1 => ?_)
  split at p1
  · rename_i hl
    refine ⟨by rw [r1.length]; exact line_le hl, fun q hq => ?_⟩
    obtain ⟨o2, st2⟩ := o1.alloc (o := .tup xs) hq
    exact p1 _ _ _ _ o2 st2 (.tup (.of upd_same) (r1.mono st2.s1))
  · exact p1.elim
theorem do_lst (ha : DA X C W es fa) : DO X C W (.List es pos) (oLst fa) := by
  obtain ⟨ta, pa, qa⟩ := ha.pr
  refine ⟨_, pe_lst pa, fun F A H σ s Q o p => ?_⟩
  refine qa F A H σ s _ o (PostO.seq p fun l s1 xs F1 A1 H1 _ o1 st1 r1 p1 => ?_)
  split at p1
  · rename_i hl
    refine ⟨by rw [r1.length]; exact line_le hl, fun q hq => ?_⟩
    obtain ⟨o2, st2, f2⟩ := o1.fresh (u := .lst xs) (m := .lst l) hq ⟨rfl, xs, upd_same, r1⟩
    exact p1 q _ _ _ o2 st2 f2
  · exact p1.elim
end
/-! ### calls of defs -/
inductive AV where
  | pv (p : PV) | sl (i : Nat)
inductive RAs (C : Fx) (σ : L2.St) (F : Hp) : List V → List AV → Prop
  | nil : RAs C σ F [] []
  | pv {v : V} {p : PV} {vs : List V} {ps : List AV} : Rp C F v p → RAs C σ F vs ps → RAs C σ F (v :: vs) (.pv p :: ps)
  | sl {v : V} {i : Nat} {vs : List V} {ps : List AV} : σ[i]? = some (some v) → RAs C σ F vs ps → RAs C σ F (v :: vs) (.sl i :: ps)
theorem RAs.mono {C : Fx} {σ : L2.St} {F F' : Hp} (e : Same F F') {vs : List V} {ps : List AV} (h : RAs C σ F vs ps) : RAs C σ F' vs ps := by
  induction h with
  | nil => exact .nil
  | pv r _ ih => exact .pv (r.mono e) ih
  | sl r _ ih => exact .sl r ih
structure DL (X : Cx) (C : Fx) (W : WX) (es : List Expr) (f : Stt → Res (List AV)) : Prop where
  pr : ∃ te, PA X es te ∧ ∀ F A H σ s Q, OkF C F A H σ s → Post C W (fun F _ vs ps => RAs C σ F vs ps) F A H σ (f s) Q → te σ H Q
def lNil : Stt → Res (List AV) := fun s => .ok [] s
def lPv (fa : Stt → Res PV) (fb : Stt → Res (List AV)) : Stt → Res (List AV) := fun s => (fa s).bind fun p s1 => (fb s1).bind fun q s2 => .ok (.pv p :: q) s2
def lSl (i : Nat) (fb : Stt → Res (List AV)) : Stt → Res (List AV) := fun s => match s.ro[i]? with
  | some (some (.own _)) => (fb s).bind fun q s2 => .ok (.sl i :: q) s2
  | some (some (.bor _)) => (fb s).bind fun q s2 => .ok (.sl i :: q) s2
  | _ => .stuck
/-- an object's name: the one that slot i owns, the k-th that was lent -/
inductive MKey where
  | inl (i : Nat) | inr (k : Nat)
  deriving DecidableEq
def keyOf (s : Stt) (i : Nat) : Option MKey := match s.ro[i]? with
  | some (some (.own _)) => some (.inl i)
  | some (some (.bor k)) => some (.inr k)
  | _ => none
def getK (s : Stt) : MKey → Option MO
  | .inl i => match s.ro[i]? with
    | some (some (.own m)) => some m
    | _ => none
  | .inr k => s.mu[k]?
def setK (s : Stt) : MKey → MO → Stt
  | .inl i, m => ⟨s.ro.set i (some (.own m)), s.mu⟩
  | .inr k, m => ⟨s.ro, s.mu.set k m⟩
def lowerA (s : Stt) : List AV → List MKey → Option (List SV × List MKey)
  | [], ks => some ([], ks)
  | .pv p :: r, ks => match lowerA s r ks with
    | some (ps, ks') => some (.val p :: ps, ks')
    | none => none
  | .sl i :: r, ks => match keyOf s i with
    | none => none
    | some k => match lowerA s r (ks ++ [k]) with
      | some (ps, ks') => some (.bor ks.length :: ps, ks')
      | none => none
def getAll (s : Stt) : List MKey → Option (List MO)
  | [] => some []
  | k :: r => match getK s k, getAll s r with
    | some m, some ms => some (m :: ms)
    | _, _ => none
def setAll : Stt → List MKey → List MO → Stt
  | s, k :: r, m :: ms => setAll (setK s k m) r ms
  | s, _, _ => s
def distinct : List MKey → Bool
  | [] => true
  | k :: r => decide (k ∉ r) && distinct r
def eCall (m : List SV → List MO → FRes) (fa : Stt → Res (List AV)) : Stt → Res PV := fun s => (fa s).bind fun avs s1 => match lowerA s1 avs [] with
  | none => .stuck
  | some (ps, ks) => if distinct ks = true then match getAll s1 ks with
    | none => .stuck
    | some ms => match m ps ms with
      | .ok v ms' => .ok v (setAll s1 ks ms')
      | .own (.lst l) ms' => .ok (.lst l) (setAll s1 ks ms')
      | .own _ _ => .stuck
      | .ex c v ms' => .ex c v (setAll s1 ks ms')
      | .stuck => .stuck
    else .stuck
def oCall (m : List SV → List MO → FRes) (fa : Stt → Res (List AV)) : Stt → Res MO := fun s => (fa s).bind fun avs s1 => match lowerA s1 avs [] with
  | none => .stuck
  | some (ps, ks) => if distinct ks = true then match getAll s1 ks with
    | none => .stuck
    | some ms => match m ps ms with
      | .ok _ _ => .stuck
      | .own o ms' => .ok o (setAll s1 ks ms')
      | .ex c v ms' => .ex c v (setAll s1 ks ms')
      | .stuck => .stuck
    else .stuck
end PL
/-! PL5: a call of a def: what the callee sees, what the caller has then. -/
namespace PL
open PySem PySem.Spec PyProof.Rows L2
mutual
theorem Rp.cg {C D : Fx} {F : Hp} (hk : D.K = C.K) (hc : D.cl = C.cl) (hf : D.fa = C.fa := by rfl) : ∀ {v : V} {p : PV}, Rp C F v p → Rp D F v p
  | _, _, .non => .non
  | _, _, .bl b => .bl b
  | _, _, .int i => .int i
  | _, _, .str x => .str x
  | _, _, .tup h r => .tup (by rw [hk]; exact h) (Rps.cg hk hc hf r)
  | _, _, .lst h r => .lst h (Rps.cg hk hc hf r)
  | _, _, .scr h r => .scr (by rw [hk]; exact h) (Rps.cg hk hc hf r)
  | _, _, .ins h r => .ins (by rw [hc]; exact h) (Rpf.cg hk hc hf r)
  | _, _, .fnp => hf ▸ .fnp
  | _, _, .exi h k r => .exi (by rw [hc]; exact h) k (Rp.cg hk hc hf r)
theorem Rps.cg {C D : Fx} {F : Hp} (hk : D.K = C.K) (hc : D.cl = C.cl) (hf : D.fa = C.fa := by rfl) : ∀ {v : List V} {p : List PV}, Rps C F v p → Rps D F v p
  | _, _, .nil => .nil
  | _, _, .cons h r => .cons (Rp.cg hk hc hf h) (Rps.cg hk hc hf r)
theorem Rpf.cg {C D : Fx} {F : Hp} (hk : D.K = C.K) (hc : D.cl = C.cl) (hf : D.fa = C.fa := by rfl) : ∀ {v : List (Str × V)} {p : List (Str × PV)}, Rpf C F v p → Rpf D F v p
  | _, _, .nil => .nil
  | _, _, .cons h r => .cons (Rp.cg hk hc hf h) (Rpf.cg hk hc hf r)
end
theorem Lls.cg {C D : Fx} {F H : Hp} (hk : D.K = C.K) (hc : D.cl = C.cl) (hf : D.fa = C.fa := by rfl) : ∀ {as : List Addr} {ls : List (List PV)}, Lls C F H as ls → Lls D F H as ls
  | [], [], _ => trivial
  | a :: as, l :: ls, ⟨⟨xs, h1, h2⟩, h⟩ => ⟨⟨xs, h1, h2.cg hk hc hf⟩, Lls.cg hk hc hf h⟩
  | [], _ :: _, h => h.elim
  | _ :: _, [], h => h.elim
theorem MAt.cg {C D : Fx} {F H : Hp} {p : Addr} {fp : List Addr} {m : MO} (hk : D.K = C.K) (hc : D.cl = C.cl) (h : MAt C F H p fp m) (hf : D.fa = C.fa := by rfl) : MAt D F H p fp m := by
  cases m with
  | lst l => obtain ⟨h1, xs, h2, h3⟩ := h; exact ⟨h1, xs, h2, h3.cg hk hc hf⟩
  | ins c l => obtain ⟨h1, dx, fs, h2, h3⟩ := h; exact ⟨h1, dx, fs, by rw [hc]; exact h2, h3.cg hk hc hf⟩
  | dct l => obtain ⟨h1, ks, h2, h3, h4⟩ := h; exact ⟨h1, ks, h2, h3, h4.cg hk hc hf⟩
  | lls l => obtain ⟨as, h1, h2, h3, h4, h5⟩ := h; exact ⟨as, h1, h2, h3, h4, h5.cg hk hc hf⟩
  | bag g l t b => exact h
def adr (σ : L2.St) (C : Fx) : MKey → Addr
  | .inl i => match σ[i]? with
    | some (some (.ref p)) => p
    | _ => 0
  | .inr k => C.be k
def fpr (A : Nat → List Addr) (C : Fx) : MKey → List Addr
  | .inl i => A i
  | .inr k => C.Bf k
def subC (σ : L2.St) (A : Nat → List Addr) (C : Fx) (ks : List MKey) : Fx := ⟨C.K, C.cl, ks.length, fun j => adr σ C (ks.getD j (.inl 0)), fun j => fpr A C (ks.getD j (.inl 0)), C.fa, C.F0⟩
theorem setAll_ro : ∀ (ks : List MKey) (ms : List MO) (s : Stt), ks.length = ms.length → ∀ (i : Nat) x, (setAll s ks ms).ro[i]? = some x → (∃ (j : Nat) (m : MO), ks[j]? = some (MKey.inl i) ∧ ms[j]? = some m ∧ x = some (SV.own m)) ∨ (s.ro[i]? = some x ∧ MKey.inl i ∉ ks)
  | [], [], s, _, i, x, h => .inr ⟨h, by simp⟩
  | [], _ :: _, s, hl, i, x, h => by simp at hl
  | _ :: _, [], s, hl, i, x, h => by simp at hl
  | k :: r, m :: ms, s, hl, i, x, h => by
    rcases setAll_ro r ms (setK s k m) (by simpa using hl) i x h with ⟨j, m', h1, h2, h3⟩ | ⟨h1, h2⟩
    · exact .inl ⟨j + 1, m', by simpa using h1, by simpa using h2, h3⟩
    · cases k with
      | inr k =>
        refine .inr ⟨h1, ?_⟩
        intro z
        rcases List.mem_cons.mp z with z | z
        · cases z
        · exact h2 z
      | inl i0 =>
        by_cases hi : i0 = i
        · subst hi
          refine .inl ⟨0, m, rfl, rfl, ?_⟩
          have h1 : (s.ro.set i0 (some (.own m)))[i0]? = some x := h1
          have hlt : i0 < s.ro.length := by
            have := (List.getElem?_eq_some_iff.mp h1).1
            rwa [List.length_set] at this
          rw [List.getElem?_set_self hlt] at h1
          cases h1; rfl
        · have h1 : (s.ro.set i0 (some (.own m)))[i]? = some x := h1
          rw [List.getElem?_set_ne hi] at h1
          refine .inr ⟨h1, fun z => ?_⟩
          rcases List.mem_cons.mp z with z | z
          · cases z; exact hi rfl
          · exact h2 z
theorem setAll_mu : ∀ (ks : List MKey) (ms : List MO) (s : Stt), ks.length = ms.length → ∀ (i : Nat) x, (setAll s ks ms).mu[i]? = some x → (∃ (j : Nat), ks[j]? = some (MKey.inr i) ∧ ms[j]? = some x) ∨ (s.mu[i]? = some x ∧ MKey.inr i ∉ ks)
  | [], [], s, _, i, x, h => .inr ⟨h, by simp⟩
  | [], _ :: _, s, hl, i, x, h => by simp at hl
  | _ :: _, [], s, hl, i, x, h => by simp at hl
  | k :: r, m :: ms, s, hl, i, x, h => by
    rcases setAll_mu r ms (setK s k m) (by simpa using hl) i x h with ⟨j, h1, h2⟩ | ⟨h1, h2⟩
    · exact .inl ⟨j + 1, by simpa using h1, by simpa using h2⟩
    · cases k with
      | inl k =>
        refine .inr ⟨h1, ?_⟩
        intro z
        rcases List.mem_cons.mp z with z | z
        · cases z
        · exact h2 z
      | inr i0 =>
        by_cases hi : i0 = i
        · subst hi
          have h1 : (s.mu.set i0 m)[i0]? = some x := h1
          have hlt : i0 < s.mu.length := by
            have := (List.getElem?_eq_some_iff.mp h1).1
            rwa [List.length_set] at this
          rw [List.getElem?_set_self hlt] at h1
          cases h1
          exact .inl ⟨0, rfl, rfl⟩
        · have h1 : (s.mu.set i0 m)[i]? = some x := h1
          rw [List.getElem?_set_ne hi] at h1
          refine .inr ⟨h1, fun z => ?_⟩
          rcases List.mem_cons.mp z with z | z
          · cases z; exact hi rfl
          · exact h2 z
theorem setAll_lens : ∀ (ks : List MKey) (ms : List MO) (s : Stt), (setAll s ks ms).ro.length = s.ro.length ∧ (setAll s ks ms).mu.length = s.mu.length
  | [], [], s => ⟨rfl, rfl⟩
  | [], _ :: _, s => ⟨rfl, rfl⟩
  | _ :: _, [], s => ⟨rfl, rfl⟩
  | k :: r, m :: ms, s => by
    obtain ⟨h1, h2⟩ := setAll_lens r ms (setK s k m)
    have e1 : (setK s k m).ro.length = s.ro.length := by cases k <;> simp [setK]
    have e2 : (setK s k m).mu.length = s.mu.length := by cases k <;> simp [setK]
    exact ⟨h1.trans e1, h2.trans e2⟩
theorem getAll_at : ∀ {ks : List MKey} {ms : List MO} {s : Stt}, getAll s ks = some ms → ks.length = ms.length ∧ ∀ (j : Nat) (k : MKey), ks[j]? = some k → ∃ m, ms[j]? = some m ∧ getK s k = some m
  | [], ms, s, h => by
    cases h
    exact ⟨rfl, fun j k e => by simp at e⟩
  | k :: r, ms, s, h => by
    unfold getAll at h
    split at h
    · rename_i m ms' e1 e2
      cases h
      obtain ⟨h1, h2⟩ := getAll_at e2
      refine ⟨by simp [h1], fun j k' e => ?_⟩
      cases j with
      | zero => simp at e; subst e; exact ⟨m, rfl, e1⟩
      | succ j => exact h2 j k' (by simpa using e)
    · cases h
theorem distinct_ne : ∀ {ks : List MKey}, distinct ks = true → ∀ (i j : Nat) (k : MKey), ks[i]? = some k → ks[j]? = some k → i = j
  | [], _, i, j, k, h, _ => by simp at h
  | k0 :: r, hd, i, j, k, h1, h2 => by
    unfold distinct at hd
    rw [Bool.and_eq_true] at hd
    have nk : k0 ∉ r := of_decide_eq_true hd.1
    cases i with
    | zero =>
      cases j with
      | zero => rfl
      | succ j =>
        simp at h1 h2
        subst h1
        exact absurd (List.mem_of_getElem? h2) nk
    | succ i =>
      cases j with
      | zero =>
        simp at h1 h2
        subst h2
        exact absurd (List.mem_of_getElem? h1) nk
      | succ j => rw [distinct_ne hd.2 i j k (by simpa using h1) (by simpa using h2)]
section
variable {C : Fx} {F H : Hp} {A : Nat → List Addr} {σ : L2.St} {s : Stt}
/-- a valid key's object -/
theorem key_at (o : OkF C F A H σ s) {k : MKey} {m : MO} (h : getK s k = some m) : MAt C F H (adr σ C k) (fpr A C k) m ∧ (∀ b, b ∈ fpr A C k → F b = none ∧ H b ≠ none) ∧ (∀ i, k = .inl i → σ[i]? = some (some (.ref (adr σ C k)))) ∧ (∀ q, k = .inr q → q < C.nb) := by
  cases k with
  | inl i =>
    unfold getK at h
    simp only at h
    split at h
    · rename_i m' e
      cases h
      obtain ⟨p, h1, h2⟩ := o.own i m e
      have ea : adr σ C (.inl i) = p := by
        show (match σ[i]? with | some (some (.ref p)) => p | _ => 0) = p
        rw [h1]
      rw [ea]
      exact ⟨h2, fun b hb => o.free i b hb, fun j e => by cases e; exact h1, fun q e => by cases e⟩
    · cases h
  | inr k =>
    have h1 := o.bor k m h
    have hk : k < C.nb := by rw [← o.nb]; exact (List.getElem?_eq_some_iff.mp h).1
    refine ⟨h1, fun b hb => ⟨(o.freeB k b hk hb).1, h1.there b hb⟩, fun j e => ?_, fun q e => ?_⟩
    · cases e
    · cases e; exact hk
theorem key_dis (o : OkF C F A H σ s) {k k' : MKey} (h : ∀ q, k = .inr q → q < C.nb) (h' : ∀ q, k' = .inr q → q < C.nb) {b : Addr} (hb : b ∈ fpr A C k) (hb' : b ∈ fpr A C k') : k = k' := by
  cases k with
  | inl i =>
    cases k' with
    | inl j => rw [o.dis i j b hb hb']
    | inr q => exact absurd hb ((o.freeB q b (h' q rfl) hb').2 i)
  | inr q =>
    cases k' with
    | inl j => exact absurd hb' ((o.freeB q b (h q rfl) hb).2 j)
    | inr q' => rw [o.disB q q' b (h q rfl) (h' q' rfl) hb hb']
theorem lower_ext : ∀ {avs : List AV} {ks ks' : List MKey} {ps : List SV}, lowerA s avs ks = some (ps, ks') → ∃ r, ks' = ks ++ r
  | [], ks, ks', ps, h => by cases h; exact ⟨[], by simp⟩
  | .pv p :: r, ks, ks', ps, h => by
    unfold lowerA at h
    split at h
    · rename_i ps' ks'' e
      cases h
      exact lower_ext e
    · cases h
  | .sl i :: r, ks, ks', ps, h => by
    unfold lowerA at h
    split at h
    · cases h
    · rename_i k e
      split at h
      · rename_i ps' ks'' e2
        cases h
        obtain ⟨x, e3⟩ := lower_ext e2
        exact ⟨k :: x, by rw [e3, List.append_assoc]; rfl⟩
      · cases h
theorem lower_rp (o : OkF C F A H σ s) {D : Fx} (hk : D.K = C.K) (hc : D.cl = C.cl) (hfa : D.fa = C.fa) (ks0 : List MKey) (hn : D.nb = ks0.length) (hb : ∀ (j : Nat) (k : MKey), ks0[j]? = some k → D.be j = adr σ C k) :
    ∀ {avs : List AV} {vs : List V} {ks ks' : List MKey} {ps : List SV}, lowerA s avs ks = some (ps, ks') → (∃ r, ks0 = ks' ++ r) → RAs C σ F vs avs → RpA D F vs ps
  | [], vs, ks, ks', ps, h, _, r => by cases h; cases r; exact .nil
  | .pv p :: r, vs, ks, ks', ps, h, he, ra => by
    unfold lowerA at h
    split at h
    · rename_i ps' ks'' e
      cases h
      cases ra with
      | pv r1 r2 => exact .val (r1.cg hk hc hfa) (lower_rp o hk hc hfa ks0 hn hb e he r2)
    · cases h
  | .sl i :: r, vs, ks, ks', ps, h, he, ra => by
    unfold lowerA at h
    split at h
    · cases h
    · rename_i k ek
      split at h
      · rename_i ps' ks'' e2
        cases h
        cases ra with
        | @sl v _ vs' _ r1 r2 =>
          obtain ⟨x, e3⟩ := lower_ext e2
          obtain ⟨y, e4⟩ := he
          have ej : ks0[ks.length]? = some k := by
            rw [e4, e3]
            simp
          have hlt : ks.length < D.nb := by rw [hn]; exact (List.getElem?_eq_some_iff.mp ej).1
          have ev : v = .ref (D.be ks.length) := by
            rw [hb _ _ ej]
            unfold keyOf at ek
            split at ek
            · rename_i m e
              cases ek
              obtain ⟨p, h1, _⟩ := o.own i m e
              rw [h1] at r1
              cases r1
              show V.ref p = V.ref (match σ[i]? with | some (some (.ref p)) => p | _ => 0)
              rw [h1]
            · rename_i q e
              cases ek
              have := (o.lent i q e).1
              rw [this] at r1
              cases r1
              rfl
            · cases ek
          rw [ev]
          exact .bor hlt (lower_rp o hk hc hfa ks0 hn hb e2 ⟨y, e4⟩ r2)
      · cases h
/-- THE CALL -/
theorem call_core (o : OkF C F A H σ s) {avs : List AV} {vs : List V} {ps : List SV} {ks : List MKey} {ms : List MO} (hl : lowerA s avs [] = some (ps, ks)) (hd : distinct ks = true) (hg : getAll s ks = some ms) (r : RAs C σ F vs avs) :
    OkF (subC σ A C ks) F noA H [] ⟨[], ms⟩ ∧ RpA (subC σ A C ks) F vs ps ∧
      ∀ F' H' ms', OkF (subC σ A C ks) F' noA H' [] ⟨[], ms'⟩ → Step (subC σ A C ks) F noA H F' noA H' →
        OkF C F' A H' σ (setAll s ks ms') ∧ Step C F A H F' A H' ∧ ∀ p m, Fresh (subC σ A C ks) F noA H F' noA H' p m → Fresh C F A H F' A H' p m := by
  obtain ⟨lms, hms⟩ := getAll_at hg
  have kg : ∀ (j : Nat) (k : MKey), ks[j]? = some k → ks.getD j (.inl 0) = k := fun j k e => by rw [List.getD_eq_getElem?_getD, e]; rfl
  have kv : ∀ (j : Nat), j < ks.length → ∃ (k : MKey) (m : MO), ks[j]? = some k ∧ ms[j]? = some m ∧ getK s k = some m := fun j hj => by
    obtain ⟨m, h1, h2⟩ := hms j ks[j] (List.getElem?_eq_getElem hj)
    exact ⟨ks[j], m, List.getElem?_eq_getElem hj, h1, h2⟩
  have nofr : ∀ {X : Addr}, ¬ OwnA noA X := fun {X} ⟨i, h⟩ => absurd h (by simp [noA])
  refine ⟨⟨rfl, o.sub, fun i v e => by simp at e, fun i m e => by simp at e, lms.symm, fun i k e => by simp at e, fun j m e => ?_, fun _ _ h => absurd h (by simp [noA]), fun _ _ _ h _ => absurd h (by simp [noA]), fun j b hj hb => ?_, fun i j b hi hj hb hb' => ?_, o.ext⟩,
    lower_rp (D := subC σ A C ks) o rfl rfl rfl ks rfl (fun j k e => by show adr σ C (ks.getD j (.inl 0)) = _; rw [kg j k e]) hl ⟨[], by simp⟩ r, fun F' H' ms' o' st => ?_⟩
  · have hj : j < ks.length := by rw [lms]; exact (List.getElem?_eq_some_iff.mp e).1
    obtain ⟨k, m', h1, h2, h3⟩ := kv j hj
    have e' : ms[j]? = some m := e
    rw [h2] at e'; cases e'
    show MAt (subC σ A C ks) F H (adr σ C (ks.getD j _)) (fpr A C (ks.getD j _)) m
    rw [kg j k h1]
    exact (key_at o h3).1.cg (by rfl) (by rfl)
  · obtain ⟨k, m', h1, h2, h3⟩ := kv j hj
    have hb' : b ∈ fpr A C (ks.getD j (.inl 0)) := hb
    rw [kg j k h1] at hb'
    exact ⟨((key_at o h3).2.1 b hb').1, fun _ h => absurd h (by simp [noA])⟩
  · obtain ⟨k, m', h1, h2, h3⟩ := kv i hi
    obtain ⟨k', m'', h1', h2', h3'⟩ := kv j hj
    have hb1 : b ∈ fpr A C (ks.getD i (.inl 0)) := hb
    have hb2 : b ∈ fpr A C (ks.getD j (.inl 0)) := hb'
    rw [kg i k h1] at hb1
    rw [kg j k' h1'] at hb2
    have ek := key_dis o (key_at o h3).2.2.2 (key_at o h3').2.2.2 hb1 hb2
    exact distinct_ne hd i j k h1 (by rw [ek]; exact h1')
  · -- behind the call
    have lms' : ks.length = ms'.length := o'.nb.symm
    have bor_in : ∀ b, Bor (subC σ A C ks) b → OwnA A b ∨ Bor C b := fun b ⟨j, hj, hb⟩ => by
      obtain ⟨k, m', h1, h2, h3⟩ := kv j hj
      have hb' : b ∈ fpr A C (ks.getD j (.inl 0)) := hb
      rw [kg j k h1] at hb'
      cases k with
      | inl i => exact .inl ⟨i, hb'⟩
      | inr q => exact .inr ⟨q, (key_at o h3).2.2.2 q rfl, hb'⟩
    have stay : ∀ k, (∀ q, k = MKey.inr q → q < C.nb) → k ∉ ks → ∀ b x, b ∈ fpr A C k → ¬ Tbx x → H b = some x → H' b = some x := fun k hk nk b x hb nt hx => by
      refine st.s4 b x hx (Tbx.tbl nt) nofr ?_
      rintro ⟨j, hj, hb2⟩
      obtain ⟨k', m', h1, h2, h3⟩ := kv j hj
      have hb' : b ∈ fpr A C (ks.getD j (.inl 0)) := hb2
      rw [kg j k' h1] at hb'
      have := key_dis o hk (key_at o h3).2.2.2 hb hb'
      rw [this] at nk
      exact nk (List.mem_of_getElem? h1)
    have keepN : ∀ b, F b = none → H b ≠ none → F' b = none := fun b h1 h2 => by
      cases e : F' b with
      | none => rfl
      | some x =>
        rcases st.s2 b (by rw [e]; simp) with z | z | z
        · exact absurd h1 z
        · exact absurd z h2
        · exact absurd z nofr
    have borKey : ∀ (q : Nat) (m : MO), s.mu[q]? = some m → getK s (.inr q) = some m := fun q m e => e
    refine ⟨⟨?_, o'.sub, fun i v e => ?_, fun i m e => ?_, ?_, fun i k e => ?_, fun k m e => ?_, fun i b hb => ?_, o.dis, fun k b hk hb => ?_, o.disB, ⟨o.ext.1.trans st.s1, o'.ext.2⟩⟩, ⟨st.s1, fun b hb => ?_, fun b hb => .inl hb, fun b x hx nt n1 n2 => ?_, st.s5⟩, fun p m f => ?_⟩
    · rw [(setAll_lens ks ms' s).1]; exact o.len
    · rcases setAll_ro ks ms' s lms' i _ e with ⟨j, m, h1, h2, h3⟩ | ⟨h1, h2⟩
      · cases h3
      · obtain ⟨u, h3, h4⟩ := o.val i v h1
        exact ⟨u, h3, h4.mono st.s1⟩
    · rcases setAll_ro ks ms' s lms' i _ e with ⟨j, m', h1, h2, h3⟩ | ⟨h1, h2⟩
      · cases h3
        have hj : j < ks.length := (List.getElem?_eq_some_iff.mp h1).1
        obtain ⟨k, m0, g1, g2, g3⟩ := kv j hj
        rw [h1] at g1; cases g1
        refine ⟨_, (key_at o g3).2.2.1 i rfl, ?_⟩
        have z : MAt (subC σ A C ks) F' H' (adr σ C (ks.getD j (.inl 0))) (fpr A C (ks.getD j (.inl 0))) m := o'.bor j m h2
        rw [kg j _ h1] at z
        exact z.cg (by rfl) (by rfl)
      · obtain ⟨p, h3, h4⟩ := o.own i m h1
        exact ⟨p, h3, h4.keepT st.s1 (stay (.inl i) (fun q z => by cases z) h2)⟩
    · rw [(setAll_lens ks ms' s).2]; exact o.nb
    · rcases setAll_ro ks ms' s lms' i _ e with ⟨j, m', h1, h2, h3⟩ | ⟨h1, h2⟩
      · cases h3
      · exact o.lent i k h1
    · rcases setAll_mu ks ms' s lms' k _ e with ⟨j, h1, h2⟩ | ⟨h1, h2⟩
      · have z : MAt (subC σ A C ks) F' H' (adr σ C (ks.getD j (.inl 0))) (fpr A C (ks.getD j (.inl 0))) m := o'.bor j m h2
        rw [kg j _ h1] at z
        exact z.cg (by rfl) (by rfl)
      · have hk : k < C.nb := by rw [← o.nb]; exact (List.getElem?_eq_some_iff.mp h1).1
        exact (o.bor k m h1).keepT st.s1 (stay (.inr k) (fun q z => by cases z; exact hk) h2)
    · obtain ⟨h1, h2⟩ := o.free i b hb
      exact ⟨keepN b h1 h2, st.s5 b h2⟩
    · have hm : k < s.mu.length := by rw [o.nb]; exact hk
      have ht := (o.bor k s.mu[k] (List.getElem?_eq_getElem hm)).there b hb
      exact ⟨keepN b (o.freeB k b hk hb).1 ht, (o.freeB k b hk hb).2⟩
    · rcases st.s2 b hb with z | z | z
      · exact .inl z
      · exact .inr (.inl z)
      · exact absurd z nofr
    · refine st.s4 b x hx nt nofr fun z => ?_
      rcases bor_in b z with q | q
      · exact n1 q
      · exact n2 q
    · obtain ⟨fp, h1, h2⟩ := f
      refine ⟨fp, h1.cg (by rfl) (by rfl), fun b hb => ?_⟩
      obtain ⟨k1, k2, k3, k4⟩ := h2 b hb
      have hn : H b = none := by
        rcases k4 with z | z
        · exact z
        · exact absurd z nofr
      refine ⟨k1, fun ⟨i, z⟩ => (o.free i b z).2 hn, fun ⟨q, hq, z⟩ => ?_, .inl hn⟩
      have hm : q < s.mu.length := by rw [o.nb]; exact hq
      exact (o.bor q s.mu[q] (List.getElem?_eq_getElem hm)).there b z hn
end
section
variable {X : Cx} {C : Fx} {W : WX} {e a tg : Expr} {es : List Expr} {pos : Pos} {fe : Stt → Res PV} {fo : Stt → Res MO} {fa : Stt → Res (List AV)}
theorem dl_nil : DL X C W [] lNil := ⟨_, pa_nil, fun F A H σ s Q o p => Post.now o p .nil⟩
theorem dl_pv (ha : DV X C W a fe) (hs : DL X C W es fa) (he : starEach (a :: es) X.env = (false, eval a X.env) :: starEach es X.env := by rfl) : DL X C W (a :: es) (lPv fe fa) := by
  obtain ⟨ta, pa, qa⟩ := ha.pr
  obtain ⟨tb, pb, qb⟩ := hs.pr
  refine ⟨_, pa_cons pa pb he, fun F A H σ s Q o p => ?_⟩
  refine qa F A H σ s _ o (p.seq fun q1 s1 v1 F1 A1 H1 _ o1 st1 r1 p1 => ?_)
  refine qb F1 A1 H1 σ s1 _ o1 (p1.seq fun q2 s2 v2 F2 A2 H2 _ o2 st2 r2 p2 => ?_)
  exact Post.now o2 p2 (.pv (r1.mono st2.s1) r2)
theorem dl_sl (i : Nat) {x : Str} {p : Pos} (hs : DL X C W es fa) (hN : X.N[i]? = some x := by rfl) (hv : Vis X.env.scope x := by first | exact Or.inl rfl | exact Or.inr (Or.inl rfl) | exact Or.inr (Or.inr rfl)) (hd : (x == ("__debug__" : Str)) = false := by decide)
    (hcd : (x == ("__classdict__" : Str)) = false := by decide) (he : starEach (.Name x p :: es) X.env = (false, eval (.Name x p) X.env) :: starEach es X.env := by rfl) : DL X C W (.Name x p :: es) (lSl i fa) := by
  obtain ⟨tb, pb, qb⟩ := hs.pr
  refine ⟨_, pa_cons (pe_var hN hv hd hcd) pb he, fun F A H σ s Q o p => ?_⟩
  have go : ∀ v, σ[i]? = some (some v) → Post C W (fun F _ vs ps => RAs C σ F vs ps) F A H σ ((fa s).bind fun q s2 => .ok (AV.sl i :: q) s2) Q → tCons (tVar i) tb σ H Q := fun v hv p => by
    refine ⟨v, hv, ?_⟩
    refine qb F A H σ s _ o (p.seq fun q2 s2 v2 F2 A2 H2 _ o2 st2 r2 p2 => ?_)
    exact Post.now o2 p2 (.sl hv r2)
  unfold lSl at p
  split at p
  · rename_i m e
    obtain ⟨q, h1, _⟩ := o.own i m e
    exact go _ h1 p
  · rename_i k e
    exact go _ (o.lent i k e).1 p
  · exact p.elim
/-- the callee's promise from the caller's wish -/
theorem call_post {n : Nat} {m : List SV → List MO → FRes} {F H : Hp} {A : Nat → List Addr} {σ : L2.St} {s : Stt} {avs : List AV} {vs : List V} {Q : VK} (hK : X.K = C.K) (hlen : avs.length = n) (o : OkF C F A H σ s) (r : RAs C σ F vs avs)
    (p : Post C W (RV C) F A H σ (match lowerA s avs [] with
  | none => Res.stuck
  | some (ps, ks) => if distinct ks = true then match getAll s ks with
    | none => Res.stuck
    | some ms => match m ps ms with
      | .ok v ms' => Res.ok v (setAll s ks ms')
      | .own (.lst l) ms' => Res.ok (.lst l) (setAll s ks ms')
      | .own _ _ => Res.stuck
      | .ex c v ms' => Res.ex c v (setAll s ks ms')
      | .stuck => Res.stuck
    else Res.stuck) Q) : spOf X.K C.cl n m vs H Q (fun c d H => W c d σ H) := by
  have hl : vs.length = avs.length := by
    clear p hlen
    induction r with
    | nil => rfl
    | pv _ _ ih => simpa using ih
    | sl _ _ ih => simpa using ih
  cases e1 : lowerA s avs [] with
  | none => rw [e1] at p; exact p.elim
  | some pk =>
    obtain ⟨ps, ks⟩ := pk
    rw [e1] at p
    simp only at p
    split at p
    · rename_i hd
      cases e2 : getAll s ks with
      | none => rw [e2] at p; exact p.elim
      | some ms =>
        rw [e2] at p
        simp only at p
        obtain ⟨c1, c2, c3⟩ := call_core o e1 hd e2 r
        refine ⟨hl.trans hlen, subC σ A C ks, F, ps, ms, hK.symm, rfl, c1, c2, ?_⟩
        cases e3 : m ps ms with
        | ok v ms' =>
          rw [e3] at p
          intro u F' H' o' st' r'
          obtain ⟨o2, st2, _⟩ := c3 F' H' ms' o' st'
          exact p u F' A H' o2 st2 (r'.cg (by rfl) (by rfl))
        | own mo ms' =>
          rw [e3] at p
          cases mo with
          | lst l =>
            intro q F' H' o' st' f'
            obtain ⟨o2, st2, f2⟩ := c3 F' H' ms' o' st'
            obtain ⟨F2, o3, st3, r3⟩ := o2.freeze st2 (f2 q _ f')
            exact p _ F2 A H' o3 st3 r3
          | _ => exact p.elim
        | ex c v ms' =>
          rw [e3] at p
          intro d F' H' o' st' x'
          obtain ⟨o2, st2, _⟩ := c3 F' H' ms' o' st'
          obtain ⟨u, h1, h2⟩ := x'
          exact p d F' A H' o2 st2 ⟨u, h1, h2.cg (by rfl) (by rfl)⟩
        | stuck => rw [e3] at p; exact p.elim
    · exact p.elim
end
end PL
/-! PL6: tests, choices, calls, comprehensions. -/
namespace PL
open PySem PySem.Spec PyProof.Rows L2
/-! ### tests -/
def tOf (f : Stt → Res PV) : Stt → Res Bool := fun s => (f s).bind fun p s1 => match p with
  | .bl b => .ok b s1
  | _ => .stuck
def pTru : PV → Option Bool
  | .non => some false
  | .bl b => some b
  | .int i => some (i != 0)
  | .str y => if y.length ≤ 16777216 then some ((y.length : Int) != 0) else none
  | .tup l => some (!l.isEmpty)
  | .lst l => some (!l.isEmpty)
  | .scr l => some (!l.isEmpty)
  | .ins _ _ => none
  | .fnp => none
  | .exi _ _ => none
def tTru (f : Stt → Res PV) : Stt → Res Bool := fun s => (f s).bind fun p s1 => Res.opt s1 (pTru p)
def tNt (f : Stt → Res Bool) : Stt → Res Bool := fun s => (f s).bind fun p s1 => .ok (!p) s1
def tAn (f g : Stt → Res Bool) : Stt → Res Bool := fun s => (f s).bind fun p s1 => if p = true then g s1 else .ok false s1
def tOrr (f g : Stt → Res Bool) : Stt → Res Bool := fun s => (f s).bind fun p s1 => if p = true then .ok true s1 else g s1
def eIf (t : Stt → Res Bool) (f g : Stt → Res PV) : Stt → Res PV := fun s => (t s).bind fun p s1 => if p = true then f s1 else g s1
def eAn (f g : Stt → Res PV) : Stt → Res PV := fun s => (f s).bind fun p s1 => match pTru p with
  | some true => g s1
  | some false => .ok p s1
  | none => .stuck
def eOr (f g : Stt → Res PV) : Stt → Res PV := fun s => (f s).bind fun p s1 => match pTru p with
  | some true => .ok p s1
  | some false => g s1
  | none => .stuck
def eNt (f : Stt → Res PV) : Stt → Res PV := fun s => (f s).bind fun p s1 => match pTru p with
  | some b => .ok (.bl !b) s1
  | none => .stuck
def eChain (op op' : PV → PV → Option PV) (fa fb fc : Stt → Res PV) : Stt → Res PV := fun s => (fa s).bind fun p s1 => (fb s1).bind fun q s2 => match op p q with
  | some (.bl true) => (fc s2).bind fun r s3 => Res.opt s3 (op' q r)
  | some (.bl false) => .ok (.bl false) s2
  | _ => .stuck
theorem tru_of {C : Fx} {F H : Hp} {K : PySem.W.Frag} {v : V} {p : PV} {b : Bool} (hK : K = C.K) (sm : Same F H) (r : Rp C F v p) (h : pTru p = some b) : TruV K v H b := by
  subst hK
  cases r with
  | non => cases h; rfl
  | bl b => cases h; rfl
  | int i => cases h; rfl
  | str y =>
    have h : (if y.length ≤ 16777216 then some ((y.length : Int) != 0) else none) = some b := h
    split at h
    · rename_i hl; cases h; exact ⟨by rw [sizeLine_eq]; exact hl, rfl⟩
    · cases h
  | @tup a xs l h1 h2 =>
    cases h
    refine .inr (.inl ⟨xs, sqT_mono sm h1, ?_⟩)
    cases h2 <;> rfl
  | @lst a xs l h1 h2 =>
    cases h
    refine .inl ⟨xs, .inl (.inl (sm _ _ h1)), ?_⟩
    cases h2 <;> rfl
  | @scr a xs l h1 h2 =>
    cases h
    refine .inl ⟨xs, sm.seq h1, ?_⟩
    cases h2 <;> rfl
  | ins _ _ => cases h
  | fnp => cases h
  | exi _ _ _ => cases h
section
variable {X : Cx} {C : Fx} {W : WX} {a b c e tg : Expr} {es : List Expr} {pos : Pos} {fa fb fc fe : Stt → Res PV} {ta tb : Stt → Res Bool}
/-- a bool's value, as a test -/
theorem tOf_post {t : TE} {f : Stt → Res PV} (h : ∀ F A H σ s Q, OkF C F A H σ s → Post C W (RV C) F A H σ (f s) Q → t σ H Q) :
    ∀ F A H σ s Q, OkF C F A H σ s → Post C W RB F A H σ (tOf f s) Q → tTest t σ H Q := by
  intro F A H σ s Q o p
  refine h F A H σ s _ o (p.seq fun q s1 v F1 A1 H1 _ o1 st1 r1 p1 => ?_)
  cases r1 with
  | bl k => exact ⟨k, rfl, Post.now o1 p1 rfl⟩
  | _ => exact p1.elim
theorem dt_cmp {op : CmpOp} {r : R2} {f : PV → PV → Option PV} (ho : OpR X (compareOp op) r) (h : OpD C r f) (ha : DV X C W a fa) (hb : DV X C W b fb) (hm : behindInMarks op b = false) : DT X C W (.Compare a [op] [b] pos) (tOf (eBin f fa fb)) := by
  obtain ⟨t1, pa, qa⟩ := ha.pr
  obtain ⟨t2, pb, qb⟩ := hb.pr
  exact ⟨_, pt_cmpR ho pa pb hm, tOf_post (opPost h qa qb)⟩
theorem dt_tru (hK : X.K = C.K) (ha : DV X C W a fa) (he : ∀ whole, isTrue a X.env whole = (do let v ← whole; standAt a.pos; holding [v] (truthy v)) := by intro _; rfl) : DT X C W a (tTru fa) := by
  obtain ⟨t1, pa, qa⟩ := ha.pr
  refine ⟨_, pt_truth pa he, fun F A H σ s Q o p => ?_⟩
  refine qa F A H σ s _ o (p.seq fun q s1 v F1 A1 H1 _ o1 st1 r1 p1 => ?_)
  obtain ⟨z, e, k⟩ := Post.opt p1
  exact ⟨z, tru_of hK o1.sub r1 e, k z F1 A1 H1 o1 .refl rfl⟩
theorem dt_not (ha : DT X C W a ta) : DT X C W (.UnaryOp .Not a pos) (tNt ta) := by
  obtain ⟨t1, pa, qa⟩ := ha.pr
  refine ⟨_, pt_not pa, fun F A H σ s Q o p => ?_⟩
  refine qa F A H σ s _ o (p.seq fun q s1 v F1 A1 H1 _ o1 st1 r1 p1 => ?_)
  obtain rfl : v = q := r1
  exact Post.now o1 p1 rfl
structure DW (X : Cx) (C : Fx) (W : WX) (e : Expr) (f : Stt → Res Bool) : Prop where
  pr : ∃ te, PW X e te ∧ ∀ F A H σ s Q, OkF C F A H σ s → Post C W RB F A H σ (f s) Q → te σ H Q
theorem dw_and1 (ha : DT X C W a ta) : DW X C W (.BoolOp .And [a] pos) ta := let ⟨t, p, q⟩ := ha.pr; ⟨t, pw_and1 p, q⟩
theorem dw_or1 (ha : DT X C W a ta) : DW X C W (.BoolOp .Or [a] pos) ta := let ⟨t, p, q⟩ := ha.pr; ⟨t, pw_or1 p, q⟩
theorem dw_and (ha : DT X C W a ta) (hb : DW X C W (.BoolOp .And (b :: es) pos) tb) : DW X C W (.BoolOp .And (a :: b :: es) pos) (tAn ta tb) := by
  obtain ⟨t1, pa, qa⟩ := ha.pr
  obtain ⟨t2, pb, qb⟩ := hb.pr
  refine ⟨_, pw_and pa pb, fun F A H σ s Q o p => ?_⟩
  refine qa F A H σ s _ o (p.seq fun q s1 v F1 A1 H1 _ o1 st1 r1 p1 => ?_)
  obtain rfl : v = q := r1
  cases v with
  | true => exact iteT (qb F1 A1 H1 σ s1 Q o1 (by simpa using p1))
  | false => exact iteF (Post.now (a := false) o1 (by simpa using p1) rfl)
theorem dw_or (ha : DT X C W a ta) (hb : DW X C W (.BoolOp .Or (b :: es) pos) tb) : DW X C W (.BoolOp .Or (a :: b :: es) pos) (tOrr ta tb) := by
  obtain ⟨t1, pa, qa⟩ := ha.pr
  obtain ⟨t2, pb, qb⟩ := hb.pr
  refine ⟨_, pw_or pa pb, fun F A H σ s Q o p => ?_⟩
  refine qa F A H σ s _ o (p.seq fun q s1 v F1 A1 H1 _ o1 st1 r1 p1 => ?_)
  obtain rfl : v = q := r1
  cases v with
  | true => exact iteT (Post.now (a := true) o1 (by simpa using p1) rfl)
  | false => exact iteF (qb F1 A1 H1 σ s1 Q o1 (by simpa using p1))
theorem dt_of (h : DW X C W a ta) : DT X C W a ta := let ⟨t, p, q⟩ := h.pr; ⟨t, p.pt, q⟩
/-! ### values by truth -/
end
/-! ### calls of defs -/
section
variable {X : Cx} {C : Fx} {W : WX} {a b c e tg : Expr} {es : List Expr} {pos p : Pos} {fa : Stt → Res (List AV)} {f : Addr} {fd : FuncData} {ps : List Str} {k n : Nat} {m : List SV → List MO → FRes} {x : Str}
/-- the number of arguments is right -/
def avN (n : Nat) (fa : Stt → Res (List AV)) : Stt → Res (List AV) := fun s => (fa s).bind fun l s1 => if l.length = n then .ok l s1 else .stuck
theorem dv_call (F : FnP X.prog X.w X.K X.mg X.base C.cl k f fd ps m) (hr : Room k X.A) (gu : X.A.guards = some []) (tk : Takes X W) (hK : X.K = C.K) (hm : X.mg x = some (.ref f)) (hk : PySem.W.keepIn X.K (.ref f) = true) (hb : Binds X.K fd ps []) (ha : DL X C W (a :: es) fa)
    (hg : Gl X x := by rfl) (hdb : (x == ("__debug__" : Str)) = false := by decide) (he : starEach (a :: es) X.env = (false, eval a X.env) :: starEach es X.env := by rfl) (hpl : (backTo pos (starEach es X.env)).any (·.1) = false := by rfl) (hnn : ps.length = n := by rfl) :
    DV X C W (.Call (.Name x p) (a :: es) [] pos) (eCall m (avN n fa)) := by
  subst hnn
  obtain ⟨ta, pa, qa⟩ := ha.pr
  refine ⟨_, pe_callG (E := fun σ c d H => W c d σ H) F hr gu hg hm hk hb .nil (fun σ => passAt tk σ) pa hdb he hpl, fun F A H σ s Q o pp => ?_⟩
  show ta σ H fun vs H1 => spOf X.K C.cl ps.length m (vs ++ []) H1 Q (fun c d H => W c d σ H)
  unfold eCall avN at pp
  refine qa F A H σ s _ o ?_
  cases hf : fa s with
  | ok avs s1 =>
    rw [hf] at pp
    simp only [Res.bind] at pp
    intro vs F1 A1 H1 o1 st1 r1
    rw [List.append_nil]
    by_cases hl : avs.length = ps.length
    · rw [if_pos hl] at pp
      exact call_post hK hl o1 r1 (Post.after st1 pp)
    · rw [if_neg hl] at pp; exact pp.elim
  | ex c v s1 => rw [hf] at pp; exact pp
  | stuck => rw [hf] at pp; exact pp
/-- as call_post, the result a fresh object -/
theorem call_postO {F H : Hp} {A : Nat → List Addr} {σ : L2.St} {s : Stt} {avs : List AV} {vs : List V} {Q : VK} (hK : X.K = C.K) (hlen : avs.length = n) (o : OkF C F A H σ s) (r : RAs C σ F vs avs)
    (p : PostO C W F A H σ (match lowerA s avs [] with
  | none => Res.stuck
  | some (ps, ks) => if distinct ks = true then match getAll s ks with
    | none => Res.stuck
    | some ms => match m ps ms with
      | .ok _ _ => Res.stuck
      | .own o ms' => Res.ok o (setAll s ks ms')
      | .ex c v ms' => Res.ex c v (setAll s ks ms')
      | .stuck => Res.stuck
    else Res.stuck) Q) : spOf X.K C.cl n m vs H Q (fun c d H => W c d σ H) := by
  have hl : vs.length = avs.length := by
    clear p hlen
    induction r with
    | nil => rfl
    | pv _ _ ih => simpa using ih
    | sl _ _ ih => simpa using ih
  cases e1 : lowerA s avs [] with
  | none => rw [e1] at p; exact p.elim
  | some pk =>
    obtain ⟨ps, ks⟩ := pk
    rw [e1] at p
    simp only at p
    split at p
    · rename_i hd
      cases e2 : getAll s ks with
      | none => rw [e2] at p; exact p.elim
      | some ms =>
        rw [e2] at p
        simp only at p
        obtain ⟨c1, c2, c3⟩ := call_core o e1 hd e2 r
        refine ⟨hl.trans hlen, subC σ A C ks, F, ps, ms, hK.symm, rfl, c1, c2, ?_⟩
        cases e3 : m ps ms with
        | ok v ms' => rw [e3] at p; exact p.elim
        | own mo ms' =>
          rw [e3] at p
          intro q F' H' o' st' f'
          obtain ⟨o2, st2, f2⟩ := c3 F' H' ms' o' st'
          exact p q F' A H' o2 st2 (f2 q _ f')
        | ex c v ms' =>
          rw [e3] at p
          intro d F' H' o' st' x'
          obtain ⟨o2, st2, _⟩ := c3 F' H' ms' o' st'
          obtain ⟨u, h1, h2⟩ := x'
          exact p d F' A H' o2 st2 ⟨u, h1, h2.cg (by rfl) (by rfl)⟩
        | stuck => rw [e3] at p; exact p.elim
    · exact p.elim
theorem do_call (F : FnP X.prog X.w X.K X.mg X.base C.cl k f fd ps m) (hr : Room k X.A) (gu : X.A.guards = some []) (tk : Takes X W) (hK : X.K = C.K) (hm : X.mg x = some (.ref f)) (hk : PySem.W.keepIn X.K (.ref f) = true) (hb : Binds X.K fd ps []) (ha : DL X C W (a :: es) fa)
    (hg : Gl X x := by rfl) (hdb : (x == ("__debug__" : Str)) = false := by decide) (he : starEach (a :: es) X.env = (false, eval a X.env) :: starEach es X.env := by rfl) (hpl : (backTo pos (starEach es X.env)).any (·.1) = false := by rfl) (hnn : ps.length = n := by rfl) :
    DO X C W (.Call (.Name x p) (a :: es) [] pos) (oCall m (avN n fa)) := by
  subst hnn
  obtain ⟨ta, pa, qa⟩ := ha.pr
  refine ⟨_, pe_callG (E := fun σ c d H => W c d σ H) F hr gu hg hm hk hb .nil (fun σ => passAt tk σ) pa hdb he hpl, fun F A H σ s Q o pp => ?_⟩
  show ta σ H fun vs H1 => spOf X.K C.cl ps.length m (vs ++ []) H1 Q (fun c d H => W c d σ H)
  unfold oCall avN at pp
  refine qa F A H σ s _ o ?_
  cases hf : fa s with
  | ok avs s1 =>
    rw [hf] at pp
    simp only [Res.bind] at pp
    intro vs F1 A1 H1 o1 st1 r1
    rw [List.append_nil]
    by_cases hl : avs.length = ps.length
    · rw [if_pos hl] at pp
      exact call_postO hK hl o1 r1 (PostO.after st1 pp)
    · rw [if_neg hl] at pp; exact pp.elim
  | ex c v s1 => rw [hf] at pp; exact pp
  | stuck => rw [hf] at pp; exact pp
end
end PL
/-! PL7: list comprehensions. -/
namespace PL
open PySem PySem.Spec PyProof.Rows L2
def wipeR (ro : List (Option SV)) : List Nat → List (Option SV)
  | [] => ro
  | v :: vs => (wipeR ro vs).set v none
def wipeS (vs : List Nat) (s : Stt) : Stt := ⟨wipeR s.ro vs, s.mu⟩
def keepV : Option (Option SV) → Option SV
  | some (some (.val p)) => some (.val p)
  | _ => none
def backR (r0 ro : List (Option SV)) : List Nat → List (Option SV)
  | [] => ro
  | v :: vs => (backR r0 ro vs).set v (keepV r0[v]?)
/-- behind the block: the block's own names are as they were -/
def backS (vs : List Nat) (s0 s : Stt) : Stt := ⟨backR s0.ro s.ro vs, s.mu⟩
theorem wipeR_len (ro : List (Option SV)) : ∀ vs, (wipeR ro vs).length = ro.length
  | [] => rfl
  | v :: vs => by unfold wipeR; rw [List.length_set, wipeR_len ro vs]
theorem backR_len (r0 ro : List (Option SV)) : ∀ vs, (backR r0 ro vs).length = ro.length
  | [] => rfl
  | v :: vs => by unfold backR; rw [List.length_set, backR_len r0 ro vs]
theorem wipeR_some {ro : List (Option SV)} {i : Nat} {x : SV} : ∀ {vs : List Nat}, (wipeR ro vs)[i]? = some (some x) → ro[i]? = some (some x) ∧ i ∉ vs
  | [], h => ⟨h, by simp⟩
  | v :: vs, h => by
    unfold wipeR at h
    by_cases hi : v = i
    · subst hi
      have hl : v < (wipeR ro vs).length := by
        have := (List.getElem?_eq_some_iff.mp h).1
        rwa [List.length_set] at this
      rw [List.getElem?_set_self hl] at h; cases h
    · rw [List.getElem?_set_ne hi] at h
      obtain ⟨h1, h2⟩ := wipeR_some h
      exact ⟨h1, fun z => (List.mem_cons.mp z).elim (fun e => hi e.symm) h2⟩
theorem wipe_out' {σ : L2.St} {i : Nat} : ∀ {vs : List Nat}, i ∉ vs → (L2.wipe σ vs)[i]? = σ[i]?
  | [], _ => rfl
  | v :: vs, h => by
    unfold L2.wipe
    rw [List.getElem?_set_ne (fun e => h (by rw [e]; exact List.mem_cons_self))]
    exact wipe_out' fun z => h (List.mem_cons_of_mem _ z)
theorem backR_some {r0 ro : List (Option SV)} {i : Nat} {x : SV} : ∀ {vs : List Nat}, (backR r0 ro vs)[i]? = some (some x) → (i ∈ vs ∧ ∃ p, x = .val p ∧ r0[i]? = some (some (.val p))) ∨ (i ∉ vs ∧ ro[i]? = some (some x))
  | [], h => .inr ⟨by simp, h⟩
  | v :: vs, h => by
    unfold backR at h
    by_cases hi : v = i
    · subst hi
      have hl : v < (backR r0 ro vs).length := by
        have := (List.getElem?_eq_some_iff.mp h).1
        rwa [List.length_set] at this
      rw [List.getElem?_set_self hl] at h
      have h : keepV r0[v]? = some x := Option.some.inj h
      unfold keepV at h
      split at h
      · rename_i p e
        cases h
        exact .inl ⟨List.mem_cons_self, p, rfl, e⟩
      · cases h
    · rw [List.getElem?_set_ne hi] at h
      rcases backR_some h with ⟨h1, h2⟩ | ⟨h1, h2⟩
      · exact .inl ⟨List.mem_cons_of_mem _ h1, h2⟩
      · exact .inr ⟨fun z => (List.mem_cons.mp z).elim (fun e => hi e.symm) h1, h2⟩
section
variable {C : Fx} {F H : Hp} {A : Nat → List Addr} {σ : L2.St} {s : Stt}
theorem OkF.wipe (o : OkF C F A H σ s) (vs : List Nat) : OkF C F A H (L2.wipe σ vs) (wipeS vs s) :=
  ⟨by show _ = (wipeR s.ro vs).length; rw [L2.wipe_length, wipeR_len]; exact o.len, o.sub, fun i v e => by
      obtain ⟨h1, h2⟩ := wipeR_some e
      obtain ⟨u, h3, h4⟩ := o.val i v h1
      exact ⟨u, (wipe_out' h2).trans h3, h4⟩, fun i m e => by
      obtain ⟨h1, h2⟩ := wipeR_some e
      obtain ⟨u, h3, h4⟩ := o.own i m h1
      exact ⟨u, (wipe_out' h2).trans h3, h4⟩, o.nb, fun i k e => by
      obtain ⟨h1, h2⟩ := wipeR_some e
      obtain ⟨h3, h4⟩ := o.lent i k h1
      exact ⟨(wipe_out' h2).trans h3, h4⟩, o.bor, o.free, o.dis, o.freeB, o.disB, o.ext⟩
theorem OkF.back {F2 H2 : Hp} {A2 : Nat → List Addr} {s2 : Stt} {vs : List Nat} (o : OkF C F A H σ s) (st : Step C F A H F2 A2 H2) (o2 : OkF C F2 A2 H2 (L2.wipe σ vs) s2) : OkF C F2 A2 H2 σ (backS vs s s2) :=
  ⟨by show _ = (backR s.ro s2.ro vs).length; rw [backR_len, ← o2.len, L2.wipe_length], o2.sub, fun i v e => by
      rcases backR_some e with ⟨h1, p, e1, h2⟩ | ⟨h1, h2⟩
      · cases e1
        obtain ⟨u, h3, h4⟩ := o.val i v h2
        exact ⟨u, h3, h4.mono st.s1⟩
      · obtain ⟨u, h3, h4⟩ := o2.val i v h2
        exact ⟨u, (wipe_out' h1).symm.trans h3, h4⟩, fun i m e => by
      rcases backR_some e with ⟨h1, p, e1, h2⟩ | ⟨h1, h2⟩
      · cases e1
      · obtain ⟨u, h3, h4⟩ := o2.own i m h2
        exact ⟨u, (wipe_out' h1).symm.trans h3, h4⟩, o2.nb, fun i k e => by
      rcases backR_some e with ⟨h1, p, e1, h2⟩ | ⟨h1, h2⟩
      · cases e1
      · obtain ⟨h3, h4⟩ := o2.lent i k h2
        exact ⟨(wipe_out' h1).symm.trans h3, h4⟩, o2.bor, o2.free, o2.dis, o2.freeB, o2.disB, o2.ext⟩
/-- an object that is not the state's own is changed -/
theorem OkF.other {D : Addr} {x : HO} (o : OkF C F A H σ s) (h1 : F D = none) (h2 : ¬ OwnA A D) (h3 : ¬ Bor C D) (h4 : H D ≠ none) (h5 : ∀ o, H D = some o → ¬ Tbx o) : OkF C F A (upd H D x) σ s :=
  ⟨o.len, fun b u e => by rw [upd_ne (ne_of_none e h1)]; exact o.sub b u e, o.val, fun i m e => by
      obtain ⟨p, q1, q2⟩ := o.own i m e
      exact ⟨p, q1, q2.keep (fun _ _ h => h) fun b u hb hu => by rw [upd_ne (show b ≠ D from fun z => h2 ⟨i, z ▸ hb⟩)]; exact hu⟩, o.nb, o.lent, fun k m e => by
      have hk : k < C.nb := by rw [← o.nb]; exact (List.getElem?_eq_some_iff.mp e).1
      exact (o.bor k m e).keep (fun _ _ h => h) fun b u hb hu => by rw [upd_ne (show b ≠ D from fun z => h3 ⟨k, hk, z ▸ hb⟩)]; exact hu, fun i b hb => by
      obtain ⟨q1, q2⟩ := o.free i b hb
      exact ⟨q1, by rw [upd_ne (show b ≠ D from fun z => h2 ⟨i, z ▸ hb⟩)]; exact q2⟩, o.dis, o.freeB, o.disB, ⟨o.ext.1, o.ext.2.off0 fun b u t e => by rw [upd_ne (show b ≠ D from fun z => h5 u (z ▸ e) t)]; exact e⟩⟩
theorem Step.other {F0 H0 : Hp} {A0 : Nat → List Addr} {D : Addr} {x : HO} (st : Step C F0 A0 H0 F A H) (h : H0 D = none) : Step C F0 A0 H0 F A (upd H D x) :=
  ⟨st.s1, st.s2, st.s3, fun b u e nt n1 n2 => by rw [upd_ne (ne_of_none e h)]; exact st.s4 b u e nt n1 n2, fun b e => by
    by_cases hb : b = D
    · subst hb; rw [upd_same]; simp
    · rw [upd_ne hb]; exact st.s5 b e⟩
/-- a thing that is not the state's own stays so, and as it is -/
structure Aside (C : Fx) (F : Hp) (A : Nat → List Addr) (H : Hp) (D : Addr) (x : HO) : Prop where
  a1 : F D = none
  a2 : ¬ OwnA A D
  a3 : ¬ Bor C D
  a4 : H D = some x
theorem Aside.step {F' H' : Hp} {A' : Nat → List Addr} {D : Addr} {x : HO} (a : Aside C F A H D x) (st : Step C F A H F' A' H') (nt : ∀ ps, x ≠ .tbl ps := by intro ps h; cases h) : Aside C F' A' H' D x where
  a1 := by
    cases e : F' D with
    | none => rfl
    | some y =>
      rcases st.s2 D (by rw [e]; simp) with z | z | z
      · exact absurd a.a1 z
      · rw [a.a4] at z; cases z
      · exact absurd z a.a2
  a2 := fun z => by
    rcases st.s3 D z with q | q
    · exact a.a2 q
    · rw [a.a4] at q; cases q
  a3 := a.a3
  a4 := st.s4 D x a.a4 nt a.a2 a.a3
end
theorem SameOut.wipe {vs : List Nat} {σ σ' : L2.St} (h : SameOut (fun i => decide (i ∈ vs)) σ σ') : L2.wipe σ' vs = L2.wipe σ vs := by
  have key : ∀ (us : List Nat) (i : Nat), (i ∈ us ∨ σ'[i]? = σ[i]?) → (L2.wipe σ' us)[i]? = (L2.wipe σ us)[i]? := by
    intro us
    induction us with
    | nil => intro i h; rcases h with z | z
             · cases z
             · exact z
    | cons v us ih =>
      intro i hi
      unfold L2.wipe
      by_cases e : v = i
      · subst e
        by_cases hl : v < σ.length
        · rw [List.getElem?_set_self (by rw [L2.wipe_length, h.1]; exact hl), List.getElem?_set_self (by rw [L2.wipe_length]; exact hl)]
        · rw [List.getElem?_eq_none (by rw [List.length_set, L2.wipe_length, h.1]; exact Nat.le_of_not_lt hl), List.getElem?_eq_none (by rw [List.length_set, L2.wipe_length]; exact Nat.le_of_not_lt hl)]
      · rw [List.getElem?_set_ne e, List.getElem?_set_ne e]
        refine ih i ?_
        rcases hi with z | z
        · rcases List.mem_cons.mp z with q | q
          · exact absurd q.symm e
          · exact .inl q
        · exact .inr z
  refine List.ext_getElem? fun i => key vs i ?_
  by_cases hm : i ∈ vs
  · exact .inl hm
  · exact .inr (h.2 i (decide_eq_false hm))
def compL (vs : List Nat) (a : PV → Stt → Option Stt) (ft : Stt → Res Bool) (fe : Stt → Res PV) : List PV → List PV → Stt → Res (List PV)
  | [], acc, s => .ok acc s
  | p :: r, acc, s => match a p s with
    | none => .stuck
    | some s1 => (ft s1).bind fun b s2 => if b = true then (fe s2).bind fun y s3 => if acc.length < 16777216 then compL vs a ft fe r (acc ++ [y]) (wipeS vs s3) else .stuck
      else compL vs a ft fe r acc (wipeS vs s2)
def noEx {α : Type} : Res α → Res α
  | .ok a s => .ok a s
  | _ => .stuck
def oComp (vs : List Nat) (fi : Stt → Res (List PV)) (a : PV → Stt → Option Stt) (ft : Stt → Res Bool) (fe : Stt → Res PV) : Stt → Res MO := fun s => (fi s).bind fun l s1 => (noEx (compL vs a ft fe l [] (wipeS vs s1))).bind fun acc s2 => .ok (.lst acc) (backS vs s1 s2)
theorem compL_cons (vs : List Nat) (a : PV → Stt → Option Stt) (ft : Stt → Res Bool) (fe : Stt → Res PV) (p : PV) (r acc : List PV) (s s1 : Stt) (h : a p s = some s1) : compL vs a ft fe (p :: r) acc s = (ft s1).bind fun b s2 => if b = true then (fe s2).bind fun y s3 => if acc.length < 16777216 then compL vs a ft fe r (acc ++ [y]) (wipeS vs s3) else .stuck
      else compL vs a ft fe r acc (wipeS vs s2) := by
  show (match a p s with | none => _ | some s1 => _) = _
  rw [h]
def tYesD : Stt → Res Bool := fun s => .ok true s
abbrev W0 : WX := fun _ _ _ _ => False
section
variable {C : Fx} {W : WX}
/-- the reading of a comprehension, from those of its parts -/
theorem lc_den {ti : TI} {tg : TG} {tt : TT} {te : TE} {vs : List Nat} {fi : Stt → Res (List PV)} {a : PV → Stt → Option Stt} {ft : Stt → Res Bool} {fe : Stt → Res PV}
    (qi : ∀ F A H σ s (Q : It → Hp → Prop), OkF C F A H σ s → Post C W (RI C) F A H σ (fi s) Q → ti σ H Q)
    (qg : ∀ F A H σ s x p s' Q, OkF C F A H σ s → Rp C F x p → a p s = some s' → (∀ σ' F' A' H', OkF C F' A' H' σ' s' → Step C F A H F' A' H' → SameOut (fun i => decide (i ∈ vs)) σ σ' → Q σ' H') → tg x σ H Q)
    (qt : ∀ F A H σ s Q, OkF C F A H σ s → Post C W0 RB F A H σ (ft s) Q → tt σ H Q)
    (qe : ∀ F A H σ s Q, OkF C F A H σ s → Post C W0 (RV C) F A H σ (fe s) Q → te σ H Q) :
    ∀ F A H σ s Q, OkF C F A H σ s → PostO C W F A H σ (oComp vs fi a ft fe s) Q → tLc ti tg tt te vs σ H Q := by
  intro F A H σ s Q o p
  unfold oComp at p
  refine qi F A H σ s _ o (PostO.seq p fun l s1 J F1 A1 H1 _ o1 st1 r1 p1 => ?_)
  obtain ⟨G, Y, w, hG, hY⟩ := r1
  intro D hD
  -- the list of the results
  have hF1 : F1 D = none := o1.sub.free hD
  have nA1 : ¬ OwnA A1 D := fun ⟨i, z⟩ => (o1.free i D z).2 hD
  have nB1 : ¬ Bor C D := fun ⟨q, hq, z⟩ => by
    have hm : q < s1.mu.length := by rw [o1.nb]; exact hq
    exact (o1.bor q s1.mu[q] (List.getElem?_eq_getElem hm)).there D z hD
  obtain ⟨R, hR⟩ : ∃ R, noEx (compL vs a ft fe l [] (wipeS vs s1)) = R := ⟨_, rfl⟩
  rw [hR] at p1
  have key : ∃ acc0 s0, compL vs a ft fe l [] (wipeS vs s1) = .ok acc0 s0 ∧ PostO C W F1 A1 H1 σ (.ok (.lst acc0) (backS vs s1 s0)) Q := by
    cases e : compL vs a ft fe l [] (wipeS vs s1) with
    | ok acc0 s0 => rw [e] at hR; subst hR; exact ⟨acc0, s0, rfl, p1⟩
    | ex c v s0 => rw [e] at hR; subst hR; exact p1.elim
    | stuck => rw [e] at hR; subst hR; exact p1.elim
  obtain ⟨acc0, s0, hc0, pf⟩ := key
  refine lc_it w (fun i H2 => ∃ F2 A2 s2 acc xs, OkF C F2 A2 H2 (L2.wipe σ vs) s2 ∧ Step C F1 A1 H1 F2 A2 H2 ∧ Aside C F2 A2 H2 D (.lst xs) ∧ Rps C F2 xs acc ∧ compL vs a ft fe (l.drop i) acc s2 = .ok acc0 s0) ?_ (fun i H2 _ ⟨F2, A2, s2, acc, xs, o2, st2, _⟩ => hG H2 (st2.s1.trans o2.sub)) ?_ ?_
  · refine ⟨F1, A1, wipeS vs s1, [], [], ?_, ?_, ⟨hF1, nA1, nB1, upd_same⟩, .nil, by simpa using hc0⟩
    · have := (o1.fresh (u := .lst []) (m := .lst []) hD ⟨rfl, [], upd_same, .nil⟩).1
      exact this.wipe vs
    · exact (Step.refl).other hD
  · rintro i x H2 H3 hi ⟨F2, A2, s2, acc, xs, o2, st2, as2, ra2, hc⟩ y
    have hl : l[i]? = some l[i] := List.getElem?_eq_getElem hi
    obtain ⟨F3, o3, st3, r3⟩ := hY i F2 A2 H2 _ s2 x H3 l[i] o2 st2.s1 y hl
    rw [List.drop_eq_getElem_cons hi] at hc
    cases ea : a l[i] s2 with
    | none =>
      have z : compL vs a ft fe (l[i] :: l.drop (i + 1)) acc s2 = .stuck := by
        show (match a l[i] s2 with | none => _ | some s1 => _) = _
        rw [ea]
      rw [z] at hc; cases hc
    | some s3 =>
      rw [compL_cons _ _ _ _ _ _ _ _ _ ea] at hc
      refine qg F3 A2 H3 _ s2 x l[i] s3 _ o3 r3 ea fun σ4 F4 A4 H4 o4 st4 so => ?_
      have ww : L2.wipe σ4 vs = L2.wipe σ vs := by
        have e1 := so.wipe
        have e2 : L2.wipe (L2.wipe σ vs) vs = L2.wipe σ vs := by
          refine SameOut.wipe ⟨L2.wipe_length _ _, fun i h => wipe_out' (of_decide_eq_false h)⟩
        exact e1.trans e2
      refine ⟨ww, ?_⟩
      cases hb : ft s3 with
      | ex c v s5 => rw [hb] at hc; cases hc
      | stuck => rw [hb] at hc; cases hc
      | ok b s5 =>
        refine qt F4 A4 H4 σ4 s3 _ o4 ?_
        rw [hb] at hc ⊢
        intro b' F5 A5 H5 o5 st5 rb
        obtain rfl : b' = b := rb
        have sA := ((st2.trans st3).trans st4).trans st5
        have as5 := ((as2.step st3).step st4).step st5
        cases b' with
        | false =>
          refine iteF ?_
          have hc : compL vs a ft fe (l.drop (i + 1)) acc (wipeS vs s5) = .ok acc0 s0 := by simpa using hc
          exact ⟨F5, A5, wipeS vs s5, acc, xs, by rw [← ww]; exact o5.wipe vs, sA, as5, ra2.mono ((st3.s1.trans st4.s1).trans st5.s1), hc⟩
        | true =>
          refine iteT ?_
          have hc : ((fe s5).bind fun y s3 => if acc.length < 16777216 then compL vs a ft fe (l.drop (i + 1)) (acc ++ [y]) (wipeS vs s3) else .stuck) = .ok acc0 s0 := by simpa using hc
          cases hy : fe s5 with
          | ex c v s6 => rw [hy] at hc; cases hc
          | stuck => rw [hy] at hc; cases hc
          | ok yv s6 =>
            refine qe F5 A5 H5 σ4 s5 _ o5 ?_
            rw [hy] at hc ⊢
            intro u F6 A6 H6 o6 st6 r6
            have as6 := as5.step st6
            simp only [Res.bind] at hc
            by_cases hlen : acc.length < 16777216
            · rw [if_pos hlen] at hc
              have ra6 : Rps C F6 xs acc := ra2.mono (((st3.s1.trans st4.s1).trans st5.s1).trans st6.s1)
              refine ⟨xs, as6.a4, by rw [ra6.length, sizeLine_eq]; exact hlen, F6, A6, wipeS vs s6, acc ++ [yv], xs ++ [u], ?_, (sA.trans st6).other hD, ⟨as6.a1, as6.a2, as6.a3, upd_same⟩, ra6.append (.cons r6 .nil), hc⟩
              rw [← ww]
              exact (o6.other as6.a1 as6.a2 as6.a3 (by rw [as6.a4]; simp) (fun u e => by rw [as6.a4] at e; cases e; exact fun z => z)).wipe vs
            · rw [if_neg hlen] at hc; cases hc
  · rintro H2 ⟨F2, A2, s2, acc, xs, o2, st2, as2, ra2, hc⟩
    rw [List.drop_of_length_le (Nat.le_refl _)] at hc
    cases hc
    exact pf D F2 A2 H2 (o1.back st2 o2) st2 ⟨[D], ⟨rfl, xs, as2.a4, ra2⟩, fun b hb => by
      rw [List.mem_singleton] at hb
      subst hb
      exact ⟨as2.a1, as2.a2, as2.a3, .inl hD⟩⟩
end
section
variable {X : Cx} {C : Fx} {W : WX} {elt tg iter : Expr} {ifs : List Expr} {scope : Scope} {own : List (Str × Nat)} {pos : Pos} {fi : Stt → Res (List PV)} {a : PV → Stt → Option Stt} {ft : Stt → Res Bool} {fe : Stt → Res PV}
/-- the tests of a comprehension -/
structure DTs (X : Cx) (C : Fx) (W : WX) (ifs : List Expr) (f : Stt → Res Bool) : Prop where
  pr : ∃ te, PTs X ifs te ∧ ∀ F A H σ s Q, OkF C F A H σ s → Post C W RB F A H σ (f s) Q → te σ H Q
theorem dts_nil : DTs X C W [] tYesD := ⟨_, pts_nil, fun F A H σ s Q o p => Post.now o p rfl⟩
/-- the readings that fit every context -/
def cTE (C : Fx) (W : WX) (f : Stt → Res PV) : TE := fun σ H Q => ∃ F A s, OkF C F A H σ s ∧ Post C W (RV C) F A H σ (f s) Q
def cTT (C : Fx) (W : WX) (f : Stt → Res Bool) : TT := fun σ H Q => ∃ F A s, OkF C F A H σ s ∧ Post C W RB F A H σ (f s) Q
def cTG (C : Fx) (vs : Nat → Bool) (a : PV → Stt → Option Stt) : TG := fun x σ H Q => ∃ F A s p s', OkF C F A H σ s ∧ Rp C F x p ∧ a p s = some s' ∧ ∀ σ' F' A' H', OkF C F' A' H' σ' s' → Step C F A H F' A' H' → SameOut vs σ σ' → Q σ' H'
theorem DV.c {e : Expr} (h : DV X C W e fe) : PE X e (cTE C W fe) := by
  obtain ⟨t, p, q⟩ := h.pr
  exact ⟨fun pins s σ H Q I ⟨F, A, s1, o, pp⟩ => p.run pins s σ H Q I (q F A H σ s1 Q o pp)⟩
theorem DTs.c (h : DTs X C W ifs ft) : PTs X ifs (cTT C W ft) := by
  obtain ⟨t, p, q⟩ := h.pr
  exact ⟨fun pins s σ H Q I ⟨F, A, s1, o, pp⟩ => p.run pins s σ H Q I (q F A H σ s1 Q o pp)⟩
theorem DG.c {vs : Nat → Bool} (h : DG X C vs tg a) : PG X tg (cTG C vs a) := by
  obtain ⟨t, p, q⟩ := h.pr
  exact ⟨fun pins s σ H v u Q I r ⟨F, A, s1, pv, s2, o, rp, e, k⟩ => p.run pins s σ H v u Q I r (q F A H σ s1 v pv s2 Q o rp e k)⟩
theorem do_lc (hc : X.calm = true) (hN : X.N.Nodup) (ok : BlkOk X.N X.env.scope scope own) (hi : DI X C W tg iter fi)
    (hg : ∀ (s : Shared) (H : Hp) (L : Addr) (cl : List (Str × Addr)) (fp : List Addr), DG (X.blk s H scope (compEnvC scope cl L X.env) fp) C (fun i => decide (i ∈ own.map (·.2))) tg a)
    (ht : ∀ (s : Shared) (H : Hp) (L : Addr) (cl : List (Str × Addr)) (fp : List Addr), DTs (X.blk s H scope (compEnvC scope cl L X.env) fp) C W0 ifs ft)
    (he : ∀ (s : Shared) (H : Hp) (L : Addr) (cl : List (Str × Addr)) (fp : List Addr), DV (X.blk s H scope (compEnvC scope cl L X.env) fp) C W0 elt fe) (hs : ∀ x, foldedSetIterable iter X.env x = pure x := by intro _; rfl) :
    DO X C W (.ListComp elt [⟨tg, iter, ifs, 0⟩] scope pos) (oComp (own.map (·.2)) fi a ft fe) := by
  obtain ⟨ti, pi, qi⟩ := hi.pr
  refine ⟨_, pe_lc hc hN pi ok (fun s H L cl fp => (hg s H L cl fp).c) (fun s H L cl fp => (ht s H L cl fp).c) (fun s H L cl fp => (he s H L cl fp).c) hs, ?_⟩
  exact lc_den qi (fun F A H σ s x p s' Q o r e k => ⟨F, A, s, p, s', o, r, e, k⟩) (fun F A H σ s Q o p => ⟨F, A, s, o, p⟩) (fun F A H σ s Q o p => ⟨F, A, s, o, p⟩)
end
end PL
/-! PL8: operators and built-ins by plain values. -/
namespace PL
open PySem PySem.Spec PyProof.Rows L2
/-! ### numbers -/
def okMul (i j : Int) : Bool := decide (i.natAbs.log2 + j.natAbs.log2 < 1000000)
def okDiv (j : Int) : Bool := decide (j ≠ 0 ∧ j.natAbs.log2 < 9000)
def okPow (i j : Int) : Bool := decide (0 ≤ j ∧ (i.natAbs.log2 + 1) * j.toNat ≤ 1000000)
def pSub : PV → PV → Option PV
  | .int i, .int j => some (.int (i - j))
  | _, _ => none
def pFdiv : PV → PV → Option PV
  | .int i, .int j => if okDiv j = true then some (.int (i.fdiv j)) else none
  | _, _ => none
def pMod : PV → PV → Option PV
  | .int i, .int j => if j ≠ 0 then some (.int (i.fmod j)) else none
  | _, _ => none
def pPow : PV → PV → Option PV
  | .int i, .int j => if okPow i j = true then some (.int (i ^ j.toNat)) else none
  | _, _ => none
def pNeg : PV → Option PV
  | .int i => some (.int (-i))
  | _ => none
def pLt : PV → PV → Option PV
  | .int i, .int j => some (.bl (decide (i < j)))
  | _, _ => none
def pLe : PV → PV → Option PV
  | .int i, .int j => some (.bl (decide (i ≤ j)))
  | _, _ => none
def pGt : PV → PV → Option PV
  | .int i, .int j => some (.bl (decide (j < i)))
  | _, _ => none
def pGe : PV → PV → Option PV
  | .int i, .int j => some (.bl (decide (j ≤ i)))
  | _, _ => none
def pAdd : PV → PV → Option PV
  | .int i, .int j => some (.int (i + j))
  | .str x, .str y => if x.length + y.length ≤ 16777216 then some (.str (x ++ y)) else none
  | .lst x, .lst y => if x.length + y.length ≤ 16777216 then some (.lst (x ++ y)) else none
  | .tup x, .tup y => if x.length + y.length ≤ 16777216 then some (.tup (x ++ y)) else none
  | _, _ => none
def pMul : PV → PV → Option PV
  | .int i, .int j => if okMul i j = true then some (.int (i * j)) else none
  | .lst x, .int k => if -(2 ^ 63) ≤ k ∧ k < 2 ^ 63 ∧ x.length * k.toNat ≤ 16777216 then some (.lst (List.replicate k.toNat x).flatten) else none
  | _, _ => none
section
variable {X : Cx} {C : Fx}
/-- two ints -/
theorem opD_int {Cd : Int → Int → Prop} {g : Int → Int → V} {f : PV → PV → Option PV} {z : Int → Int → PV} (h : ∀ p q y, f p q = some y → ∃ i j, p = .int i ∧ q = .int j ∧ Cd i j ∧ y = z i j) (hz : ∀ F i j, Rp C F (g i j) (z i j)) : OpD C (rI Cd g) f := by
  intro F A H σ s x y p q w Q o r1 r2 e k
  obtain ⟨i, j, rfl, rfl, hc, rfl⟩ := h _ _ _ e
  cases r1
  cases r2
  exact ⟨i, j, rfl, rfl, hc, k _ F A H o .refl (hz F i j)⟩
theorem opD_int0 {g : Int → Int → V} {f : PV → PV → Option PV} {z : Int → Int → PV} (h : ∀ p q y, f p q = some y → ∃ i j, p = .int i ∧ q = .int j ∧ y = z i j) (hz : ∀ F i j, Rp C F (g i j) (z i j)) : OpD C (rI0 g) f := by
  intro F A H σ s x y p q w Q o r1 r2 e k
  obtain ⟨i, j, rfl, rfl, rfl⟩ := h _ _ _ e
  cases r1
  cases r2
  exact ⟨i, j, rfl, rfl, k _ F A H o .refl (hz F i j)⟩
theorem OpD.or {r r' : R2} {f : PV → PV → Option PV} (h : ∀ F A H σ s x y p q z (Q : VK), OkF C F A H σ s → Rp C F x p → Rp C F y q → f p q = some z →
    (∀ v F' A' H', OkF C F' A' H' σ s → Step C F A H F' A' H' → Rp C F' v z → Q v H') → r x y H Q ∨ r' x y H Q) : OpD C (fun x y H Q => r x y H Q ∨ r' x y H Q) f := h
def CDivA (i j : Int) : Prop := j ≠ 0 ∧ j.natAbs.log2 < 9000
theorem op_fdivA : OpR X (binaryOp .FloorDiv) (rI CDivA fun i j => .int (i.fdiv j)) := opI fun _ _ _ _ _ _ _ hc q => floordiv_int hc.1 q (.inl (PyProof.noPylong_of_log2 hc.2))
def CPowA (i j : Int) : Prop := 0 ≤ j ∧ (i.natAbs.log2 + 1) * j.toNat ≤ 1000000
theorem bits_log (i : Int) : Builtin.Int.intBits i ≤ i.natAbs.log2 + 1 := by
  unfold Builtin.Int.intBits
  split <;> omega
theorem op_powA : OpR X (binaryOp .Pow) (rI CPowA fun i j => .int (i ^ j.toNat)) := opI fun i j _ _ _ _ _ hc q => by
  obtain ⟨h1, h2⟩ := hc
  refine pow_int h1 ?_ q
  have b := bits_log i
  have e : ((j.toNat : Nat) : Int) = j := Int.toNat_of_nonneg h1
  have m : Builtin.Int.intBits i * j.toNat ≤ 1000000 := Nat.le_trans (Nat.mul_le_mul_right _ b) h2
  have : ((Builtin.Int.intBits i * j.toNat : Nat) : Int) ≤ ((1000000 : Nat) : Int) := Int.ofNat_le.mpr m
  rw [Int.natCast_mul, e] at this
  have z : (1000000 : Int) ≤ 2 ^ 27 := by decide
  omega
theorem d_lt : OpD C (rI0 fun i j => .bl (decide (i < j))) pLt := opD_int0 (z := fun i j => .bl (decide (i < j))) (fun p q y e => by unfold pLt at e; split at e <;> cases e; exact ⟨_, _, rfl, rfl, rfl⟩) fun _ _ _ => .bl _
theorem d_gt : OpD C (rI0 fun i j => .bl (decide (j < i))) pGt := opD_int0 (z := fun i j => .bl (decide (j < i))) (fun p q y e => by unfold pGt at e; split at e <;> cases e; exact ⟨_, _, rfl, rfl, rfl⟩) fun _ _ _ => .bl _
theorem d_ge : OpD C (rI0 fun i j => .bl (decide (j ≤ i))) pGe := opD_int0 (z := fun i j => .bl (decide (j ≤ i))) (fun p q y e => by unfold pGe at e; split at e <;> cases e; exact ⟨_, _, rfl, rfl, rfl⟩) fun _ _ _ => .bl _
theorem d_fdiv : OpD C (rI CDivA fun i j => .int (i.fdiv j)) pFdiv := opD_int (z := fun i j => .int (i.fdiv j)) (fun p q y e => by
  unfold pFdiv at e; split at e
  · split at e
    · rename_i h; cases e; exact ⟨_, _, rfl, rfl, (by have z := of_decide_eq_true h; exact z), rfl⟩
    · cases e
  · cases e) fun _ _ _ => .int _
theorem d_mod : OpD C (rI (fun _ j => j ≠ 0) fun i j => .int (i.fmod j)) pMod := opD_int (z := fun i j => .int (i.fmod j)) (fun p q y e => by
  unfold pMod at e; split at e
  · split at e
    · rename_i h; cases e; exact ⟨_, _, rfl, rfl, h, rfl⟩
    · cases e
  · cases e) fun _ _ _ => .int _
theorem d_pow : OpD C (rI CPowA fun i j => .int (i ^ j.toNat)) pPow := opD_int (z := fun i j => .int (i ^ j.toNat)) (fun p q y e => by
  unfold pPow at e; split at e
  · split at e
    · rename_i h; cases e; exact ⟨_, _, rfl, rfl, (by have z := of_decide_eq_true h; exact z), rfl⟩
    · cases e
  · cases e) fun _ _ _ => .int _
theorem d_neg : UnD C (rU fun i => .int (-i)) pNeg := by
  intro F A H σ s x p z Q o r e k
  cases r with
  | int i => cases e; exact ⟨i, rfl, k _ F A H o .refl (.int _)⟩
  | _ => cases e
def rAddA (K : PySem.W.Frag) : R2 := fun x y H Q => rI0 (fun i j => .int (i + j)) x y H Q ∨ ((∃ i j, x = .str i ∧ y = .str j ∧ i.length + j.length ≤ sizeLine ∧ Q (.str (i ++ j)) H) ∨ (rCat x y H Q ∨ rCatA K x y H Q))
theorem op_addA : OpR X (binaryOp .Add) (rAddA X.K) := op_add.or (op_add_str.or (op_cat.or op_catA))
theorem d_add {K : PySem.W.Frag} (hK : K = C.K) : OpD C (rAddA K) pAdd := by
  intro F A H σ s x y p q z Q o r1 r2 e k
  unfold pAdd at e
  split at e
  · cases e; cases r1; cases r2
    exact .inl ⟨_, _, rfl, rfl, k _ F A H o .refl (.int _)⟩
  · split at e
    · rename_i hl
      cases e; cases r1; cases r2
      exact .inr (.inl ⟨_, _, rfl, rfl, line_le hl, k _ F A H o .refl (.str _)⟩)
    · cases e
  · split at e
    · rename_i hl
      cases e
      cases r1 with
      | @lst a xs l h1 h2 =>
        cases r2 with
        | @lst b ys l' h3 h4 =>
          refine .inr (.inr (.inl ⟨a, b, xs, ys, rfl, rfl, o.sub _ _ h1, o.sub _ _ h3, by rw [h2.length, h4.length]; exact line_le hl, fun p hp => ?_⟩))
          obtain ⟨o2, st2⟩ := o.alloc (o := .lst (xs ++ ys)) hp
          exact k _ _ _ _ o2 st2 (.lst upd_same ((h2.append h4).mono st2.s1))
    · cases e
  · split at e
    · rename_i hl
      cases e
      cases r1 with
      | @tup a xs l h1 h2 =>
        cases r2 with
        | @tup b ys l' h3 h4 =>
          refine .inr (.inr (.inr ⟨a, b, xs, ys, rfl, rfl, by rw [hK]; exact sqT_mono o.sub h1, by rw [hK]; exact sqT_mono o.sub h3, by rw [h2.length, h4.length]; exact line_le hl, fun e => ?_, fun _ e => ?_, fun _ _ p hp => ?_⟩))
          · subst e
            cases h2
            exact k _ F A H o .refl (.tup h3 h4)
          · subst e
            cases h4
            rw [List.append_nil] at k
            exact k _ F A H o .refl (.tup h1 h2)
          · obtain ⟨o2, st2⟩ := o.alloc (o := .tup (xs ++ ys)) hp
            exact k _ _ _ _ o2 st2 (.tup (.of upd_same) ((h2.append h4).mono st2.s1))
    · cases e
  · cases e
def rMulA : R2 := fun x y H Q => rI CMulW (fun i j => .int (i * j)) x y H Q ∨ rRep x y H Q
theorem op_mulA : OpR X (binaryOp .Mult) rMulA := op_mulW.or op_rep
theorem Rps.rep {F : Hp} {xs : List V} {l : List PV} (r : Rps C F xs l) : ∀ k : Nat, Rps C F (List.replicate k xs).flatten (List.replicate k l).flatten
  | 0 => .nil
  | k + 1 => by
    rw [List.replicate_succ, List.replicate_succ, List.flatten_cons, List.flatten_cons]
    exact r.append (Rps.rep r k)
theorem d_mul : OpD C rMulA pMul := by
  intro F A H σ s x y p q z Q o r1 r2 e k
  unfold pMul at e
  split at e
  · split at e
    · rename_i h
      cases e; cases r1; cases r2
      exact .inl ⟨_, _, rfl, rfl, (by have z := of_decide_eq_true h; exact z), k _ F A H o .refl (.int _)⟩
    · cases e
  · split at e
    · rename_i h
      cases e
      cases r2
      cases r1 with
      | @lst a xs l h1 h2 =>
        refine .inr ⟨a, _, xs, rfl, rfl, o.sub _ _ h1, h.1, h.2.1, by rw [h2.length]; exact line_le h.2.2, fun p hp => ?_⟩
        obtain ⟨o2, st2⟩ := o.alloc (o := .lst (List.replicate (Int.toNat _) xs).flatten) hp
        exact k _ _ _ _ o2 st2 (.lst upd_same ((h2.rep _).mono st2.s1))
    · cases e
  · cases e
end
/-! ### data, ==, in -/
mutual
def toD : PV → Option PyData
  | .non => some .none
  | .bl b => some (.bool b)
  | .int i => some (.int i)
  | .str x => some (.str x)
  | .tup l => (toDs l).map .tuple
  | .lst l => (toDs l).map .list
  | .scr l => (toDs l).map .list
  | .ins _ _ => none
  | .fnp => none
  | .exi _ _ => none
def toDs : List PV → Option (List PyData)
  | [] => some []
  | p :: r => match toD p, toDs r with
    | some d, some ds => some (d :: ds)
    | _, _ => none
end
mutual
theorem dp_of {C : Fx} {F : Hp} : ∀ {v : V} {p : PV} {d : PyData}, Rp C F v p → toD p = some d → Dp C.K F v d
  | _, _, _, .non, e => by cases e; exact .non
  | _, _, _, .bl b, e => by cases e; exact .bl b
  | _, _, _, .int i, e => by cases e; exact .int i
  | _, _, _, .str x, e => by cases e; exact .str x
  | _, _, d, .tup (l := l) h r, e => by
    have e : (toDs l).map PyData.tuple = some d := e
    cases h2 : toDs l with
    | none => rw [h2] at e; cases e
    | some ds => rw [h2] at e; cases e; exact .tup h (dps_of r h2)
  | _, _, d, .lst (l := l) h r, e => by
    have e : (toDs l).map PyData.list = some d := e
    cases h2 : toDs l with
    | none => rw [h2] at e; cases e
    | some ds => rw [h2] at e; cases e; exact .lst (.of h) (dps_of r h2)
  | _, _, d, .scr (l := l) h r, e => by
    have e : (toDs l).map PyData.list = some d := e
    cases h2 : toDs l with
    | none => rw [h2] at e; cases e
    | some ds => rw [h2] at e; cases e; exact .lst h (dps_of r h2)
  | _, _, _, .ins _ _, e => by cases e
  | _, _, _, .fnp, e => by cases e
  | _, _, _, .exi _ _ _, e => by cases e
theorem dps_of {C : Fx} {F : Hp} : ∀ {v : List V} {p : List PV} {d : List PyData}, Rps C F v p → toDs p = some d → DpAll C.K F v d
  | _, _, _, .nil, e => by cases e; exact .nil
  | _, p :: r, d, .cons h1 h2, e => by
    unfold toDs at e
    split at e
    · rename_i d1 ds e1 e2
      cases e
      exact .cons (dp_of h1 e1) (dps_of h2 e2)
    · cases e
end
mutual
theorem dp_mono {K : PySem.W.Frag} {F H : Hp} (sm : Same F H) : ∀ {v : V} {d : PyData}, Dp K F v d → Dp K H v d
  | _, _, .non => .non
  | _, _, .bl b => .bl b
  | _, _, .int i => .int i
  | _, _, .str x => .str x
  | _, _, .lst h r => .lst (sm.seq h) (dps_mono sm r)
  | _, _, .tup h r => .tup (sqT_mono sm h) (dps_mono sm r)
theorem dps_mono {K : PySem.W.Frag} {F H : Hp} (sm : Same F H) : ∀ {v : List V} {d : List PyData}, DpAll K F v d → DpAll K H v d
  | _, _, .nil => .nil
  | _, _, .cons h r => .cons (dp_mono sm h) (dps_mono sm r)
end
def pEqB (p q : PV) : Option Bool := match toD p, toD q with
  | some d, some e => if (SeqAt.shaped d && SeqAt.shaped e) = true then some (PyData.eqv d e) else none
  | _, _ => none
def pEq (p q : PV) : Option PV := (pEqB p q).map .bl
def pNe (p q : PV) : Option PV := (pEqB p q).map fun b => .bl (!b)
def pIs : PV → PV → Option PV
  | p, .non => some (.bl (match p with | .non => true | _ => false))
  | _, _ => none
def pIsNot : PV → PV → Option PV
  | p, .non => some (.bl (match p with | .non => false | _ => true))
  | _, _ => none
def pInB : PV → PV → Option Bool
  | p, .lst l => match toD p, toDs l with
    | some d, some ds => if (SeqAt.shaped d && SeqAt.shaped (.list ds)) = true then some (ds.any fun z => PyData.eqv z d) else none
    | _, _ => none
  | _, _ => none
def pIn (p q : PV) : Option PV := (pInB p q).map .bl
def pNotIn (p q : PV) : Option PV := (pInB p q).map fun b => .bl (!b)
section
variable {X : Cx} {C : Fx}
theorem eqB_at {F H : Hp} {p q : PV} {b : Bool} {x y : V} (sm : Same F H) (r1 : Rp C F x p) (r2 : Rp C F y q) (h : pEqB p q = some b) : ∃ d e, Dp C.K H x d ∧ Dp C.K H y e ∧ SeqAt.shaped d = true ∧ SeqAt.shaped e = true ∧ b = PyData.eqv d e := by
  unfold pEqB at h
  split at h
  · rename_i d e h1 h2
    split at h
    · rename_i hs
      rw [Bool.and_eq_true] at hs
      cases h
      exact ⟨d, e, dp_mono sm (dp_of r1 h1), dp_mono sm (dp_of r2 h2), hs.1, hs.2, rfl⟩
    · cases h
  · cases h
theorem d_eq {K : PySem.W.Frag} (hK : K = C.K) : OpD C (rEqD K) pEq := by
  intro F A H σ s x y p q z Q o r1 r2 e k
  unfold pEq at e
  cases h : pEqB p q with
  | none => rw [h] at e; cases e
  | some b =>
    rw [h] at e; cases e
    obtain ⟨d, e, h1, h2, h3, h4, rfl⟩ := eqB_at o.sub r1 r2 h
    rw [hK]
    exact ⟨d, e, h1, h2, h3, h4, k _ F A H o .refl (.bl _)⟩
theorem d_ne {K : PySem.W.Frag} (hK : K = C.K) : OpD C (rNeD K) pNe := by
  intro F A H σ s x y p q z Q o r1 r2 e k
  unfold pNe at e
  cases h : pEqB p q with
  | none => rw [h] at e; cases e
  | some b =>
    rw [h] at e; cases e
    obtain ⟨d, e, h1, h2, h3, h4, rfl⟩ := eqB_at o.sub r1 r2 h
    rw [hK]
    exact ⟨d, e, h1, h2, h3, h4, k _ F A H o .refl (.bl _)⟩
end
end PL
/-! PLS: sum(xs), xs a list of bools. -/
/-! PL9: subscripts, slices, objects that are changed, built-ins. -/
namespace PL
open PySem PySem.Spec PyProof.Rows L2
def getM (s : Stt) (i : Nat) : Option (MKey × MO) := match keyOf s i with
  | some k => (getK s k).map fun m => (k, m)
  | none => none
section
variable {C : Fx} {F H : Hp} {A : Nat → List Addr} {σ : L2.St} {s : Stt}
theorem mut_at (o : OkF C F A H σ s) {i : Nat} {k : MKey} {m : MO} (h : getM s i = some (k, m)) : getK s k = some m ∧ σ[i]? = some (some (.ref (adr σ C k))) ∧ MAt C F H (adr σ C k) (fpr A C k) m := by
  unfold getM at h
  cases e : keyOf s i with
  | none => rw [e] at h; cases h
  | some k' =>
    have h : (getK s k').map (fun m => (k', m)) = some (k, m) := by rw [e] at h; exact h
    cases e2 : getK s k' with
    | none => rw [e2] at h; cases h
    | some m' =>
      rw [e2] at h
      cases h
      refine ⟨e2, ?_, (key_at o e2).1⟩
      unfold keyOf at e
      split at e
      · cases e; exact (key_at o e2).2.2.1 i rfl
      · rename_i q hq
        cases e; exact (o.lent i q hq).1
      · cases e
/-- an object of the state is changed -/
theorem OkF.upd (o : OkF C F A H σ s) {k : MKey} {m m2 : MO} {H2 : Hp} (hk : getK s k = some m) (hH : ∀ b, b ∉ fpr A C k → H2 b = H b) (hN : ∀ b, b ∈ fpr A C k → H2 b ≠ none) (hM : MAt C F H2 (adr σ C k) (fpr A C k) m2) :
    OkF C F A H2 σ (setK s k m2) ∧ Step C F A H F A H2 := by
  obtain ⟨m0, hfr, hadr, hnb⟩ := key_at o hk
  have e1 : setAll s [k] [m2] = setK s k m2 := rfl
  have out : ∀ k', (∀ q, k' = MKey.inr q → q < C.nb) → k' ≠ k → ∀ b x, b ∈ fpr A C k' → H b = some x → H2 b = some x := fun k' hq ne b x hb hx => by
    rw [hH b (fun z => ne (key_dis o hq hnb hb z))]
    exact hx
  have inr_lt : ∀ (q : Nat) (m : MO), s.mu[q]? = some m → q < C.nb := fun q m e => by rw [← o.nb]; exact (List.getElem?_eq_some_iff.mp e).1
  have there : ∀ b, H b ≠ none → H2 b ≠ none := fun b hb => by
    by_cases hm : b ∈ fpr A C k
    · exact hN b hm
    · rw [hH b hm]; exact hb
  rw [← e1]
  refine ⟨⟨?_, fun b u e => ?_, fun i v e => ?_, fun i m e => ?_, ?_, fun i q e => ?_, fun q m e => ?_, fun i b hb => ?_, o.dis, o.freeB, o.disB, ⟨o.ext.1, o.ext.2.off0 fun b u t e => by rw [hH b fun z => (key_at o hk).1.nte b u z e t]; exact e⟩⟩, ⟨fun _ _ h => h, fun _ h => .inl h, fun _ h => .inl h, fun b u e _ n1 n2 => ?_, there⟩⟩
  · rw [(setAll_lens [k] [m2] s).1]; exact o.len
  · rw [hH b (fun z => by rw [(hfr b z).1] at e; cases e)]
    exact o.sub b u e
  · rcases setAll_ro [k] [m2] s rfl i _ e with ⟨j, m, h1, h2, h3⟩ | ⟨h1, h2⟩
    · cases h3
    · exact o.val i v h1
  · rcases setAll_ro [k] [m2] s rfl i _ e with ⟨j, m', h1, h2, h3⟩ | ⟨h1, h2⟩
    · cases h3
      cases j with
      | succ j => simp at h1
      | zero =>
        simp at h1 h2
        subst h1 h2
        exact ⟨_, hadr i rfl, hM⟩
    · obtain ⟨p, h3, h4⟩ := o.own i m h1
      exact ⟨p, h3, h4.keep (fun _ _ h => h) (out (.inl i) (fun q z => by cases z) (fun z => h2 (by rw [z]; exact List.mem_cons_self)))⟩
  · rw [(setAll_lens [k] [m2] s).2]; exact o.nb
  · rcases setAll_ro [k] [m2] s rfl i _ e with ⟨j, m', h1, h2, h3⟩ | ⟨h1, h2⟩
    · cases h3
    · exact o.lent i q h1
  · rcases setAll_mu [k] [m2] s rfl q _ e with ⟨j, h1, h2⟩ | ⟨h1, h2⟩
    · cases j with
      | succ j => simp at h1
      | zero =>
        simp at h1 h2
        subst h1 h2
        exact hM
    · exact (o.bor q m h1).keep (fun _ _ h => h) (out (.inr q) (fun q' z => by cases z; exact inr_lt q m h1) (fun z => h2 (by rw [z]; exact List.mem_cons_self)))
  · obtain ⟨h1, h2⟩ := o.free i b hb
    exact ⟨h1, there b h2⟩
  · rw [hH b (fun z => ?_)]
    · exact e
    · cases k with
      | inl i => exact n1 ⟨i, z⟩
      | inr q => exact n2 ⟨q, hnb q rfl, z⟩
/-- a list of the state gets new items -/
theorem OkF.updL (o : OkF C F A H σ s) {k : MKey} {l l2 : List PV} {ys : List V} (hk : getK s k = some (.lst l)) (r : Rps C F ys l2) :
    OkF C F A (L2.upd H (adr σ C k) (.lst ys)) σ (setK s k (.lst l2)) ∧ Step C F A H F A (L2.upd H (adr σ C k) (.lst ys)) := by
  obtain ⟨⟨hf, xs, hx, hr⟩, _⟩ := key_at o hk
  refine o.upd hk (fun b hb => upd_ne (fun e => hb (by rw [hf, e]; exact List.mem_cons_self))) (fun b hb => ?_) ⟨hf, ys, upd_same, r⟩
  rw [hf, List.mem_singleton] at hb
  subst hb
  rw [upd_same]; simp
end
/-! ### subscripts -/
def pIx : PV → PV → Option PV
  | .lst l, .int i => atI l i
  | .tup l, .int i => atI l i
  | .scr l, .int i => atI l i
  | .str z, .int i => if z.length ≤ 16777216 then (atI z.cps.toList i).map fun c => .str ⟨#[c]⟩ else none
  | _, _ => none
theorem Rps.atI {C : Fx} {F : Hp} {xs : List V} {l : List PV} {i : Int} {p : PV} (r : Rps C F xs l) (h : atI l i = some p) : ∃ v, L2.atI xs i = some v ∧ Rp C F v p := by
  unfold L2.atI at h ⊢
  rw [r.length]
  cases e : ixN l.length i with
  | none => rw [e] at h; cases h
  | some j =>
    rw [e] at h
    obtain ⟨v, h1, h2⟩ := r.get h
    exact ⟨v, h1, h2⟩
section
variable {X : Cx} {C : Fx} {W : WX} {a b e : Expr} {pos : Pos} {fa fb fe : Stt → Res PV}
theorem d_ix {K : PySem.W.Frag} (hK : K = C.K) : OpD C (rIx K) pIx := by
  intro F A H σ s x y p q z Q o r1 r2 e k
  unfold pIx at e
  split at e
  · cases r2
    cases r1 with
    | @lst a xs l h1 h2 =>
      obtain ⟨v, h3, h4⟩ := h2.atI e
      exact .inl ⟨a, xs, _, v, rfl, rfl, .of (o.sub _ _ h1), h3, k _ F A H o .refl h4⟩
  · cases r2
    cases r1 with
    | @tup a xs l h1 h2 =>
      obtain ⟨v, h3, h4⟩ := h2.atI e
      exact .inr (.inl ⟨a, xs, _, v, rfl, rfl, by rw [hK]; exact sqT_mono o.sub h1, h3, k _ F A H o .refl h4⟩)
  · cases r2
    cases r1 with
    | @scr a xs l h1 h2 =>
      obtain ⟨v, h3, h4⟩ := h2.atI e
      exact .inl ⟨a, xs, _, v, rfl, rfl, by rw [hK]; exact o.sub.seq h1, h3, k _ F A H o .refl h4⟩
  · split at e
    · rename_i hl
      cases r2
      cases r1
      cases h : atI (α := Nat) _ _ with
      | none => rw [h] at e; cases e
      | some c =>
        rw [h] at e; cases e
        exact .inr (.inr ⟨_, _, c, rfl, rfl, line_le hl, h, k _ F A H o .refl (.str _)⟩)
    · cases e
  · cases e
theorem dv_ix (hK : X.K = C.K) (ha : DV X C W a fa) (hb : DV X C W b fb) (hs : PlainIx b) : DV X C W (.Subscript a b pos) (eBin pIx fa fb) := by
  obtain ⟨ta, pa, qa⟩ := ha.pr
  obtain ⟨tb, pb, qb⟩ := hb.pr
  exact ⟨_, pe_ix ix_seq pa pb hs, opPost (d_ix hK) qa qb⟩
/-- an item of an object that is changed -/
def eIxM (i : Nat) (fb : Stt → Res PV) : Stt → Res PV := fun s => (getM s i).elim .stuck fun _ => (fb s).bind fun q s1 => match getM s1 i with
  | some (_, .lst l) => Res.opt s1 (pIx (.lst l) q)
  | _ => .stuck
/-- x[i] = v, x an object that is changed -/
def gSetIx (i : Nat) (fv fi : Stt → Res PV) : Stt → Fl := fun s => (fv s).fl fun p s1 => (getM s1 i).elim .stuck fun _ => (fi s1).fl fun q s2 => match q, getM s2 i with
  | .int j, some (k, .lst l) => match ixN l.length j with
    | some n => .nx (setK s2 k (.lst (l.set n p)))
    | none => .stuck
  | _, _ => .stuck
/-! ### slices -/
def pCut (l : List PV) (lo hi : Option Int) : List PV := (l.drop (HT.sIx l.length 0 lo)).take (HT.sIx l.length l.length hi - HT.sIx l.length 0 lo)
def pNo : Stt → Res (Option Int) := fun s => .ok none s
def pSo (f : Stt → Res PV) : Stt → Res (Option Int) := fun s => (f s).bind fun p s1 => match p with
  | .int i => .ok (some i) s1
  | _ => .stuck
end
/-! ### built-ins -/
def pAbs : List PV → Option PV
  | [.int i] => some (.int (if i < 0 then -i else i))
  | _ => none
def pMax2 : List PV → Option PV
  | [.int i, .int j] => some (.int (if j > i then j else i))
  | _ => none
def pMin2 : List PV → Option PV
  | [.int i, .int j] => some (.int (if j < i then j else i))
  | _ => none
def pLen : List PV → Option PV
  | [.lst l] => some (.int l.length)
  | [.tup l] => some (.int l.length)
  | [.scr l] => some (.int l.length)
  | [.str z] => if z.length ≤ 16777216 then some (.int z.length) else none
  | _ => none
def pInt1 : List PV → Option PV
  | [.int i] => some (.int i)
  | [.bl b] => some (.int (if b then 1 else 0))
  | _ => none
def allInt : List PV → Option (List Int)
  | [] => some []
  | .int i :: r => (allInt r).map (i :: ·)
  | _ :: _ => none
theorem allInt_eq : ∀ {l : List PV} {ns : List Int}, allInt l = some ns → l = ns.map PV.int
  | [], ns, h => by cases h; rfl
  | .int i :: r, ns, h => by
    unfold allInt at h
    cases e : allInt r with
    | none => rw [e] at h; cases h
    | some ms => rw [e] at h; cases h; rw [allInt_eq e]; rfl
  | .non :: _, _, h => by cases h
  | .bl _ :: _, _, h => by cases h
  | .str _ :: _, _, h => by cases h
  | .tup _ :: _, _, h => by cases h
  | .lst _ :: _, _, h => by cases h
  | .scr _ :: _, _, h => by cases h
  | .ins _ _ :: _, _, h => by cases h
  | .fnp :: _, _, h => by cases h
  | .exi _ _ :: _, _, h => by cases h
section
variable {X : Cx} {C : Fx}
theorem rps1 {F : Hp} {x : List V} {p : PV} (r : Rps C F x [p]) : ∃ v, x = [v] ∧ Rp C F v p := by
  cases r with
  | cons h t => cases t; exact ⟨_, rfl, h⟩
theorem rps2 {F : Hp} {x : List V} {p q : PV} (r : Rps C F x [p, q]) : ∃ v u, x = [v, u] ∧ Rp C F v p ∧ Rp C F u q := by
  cases r with
  | cons h t =>
    obtain ⟨u, rfl, hu⟩ := rps1 t
    exact ⟨_, u, rfl, h, hu⟩
theorem c_abs : CallD C (fun xs H Q => ∃ i, xs = [.int i] ∧ Q (.int (if i < 0 then -i else i)) H) pAbs := by
  intro F A H σ s x p z Q o r e k
  unfold pAbs at e
  split at e
  · cases e
    obtain ⟨v, rfl, h⟩ := rps1 r
    cases h
    exact ⟨_, rfl, k _ F A H o .refl (.int _)⟩
  · cases e
theorem c_min2 : CallD C (fun xs H Q => ∃ i j, xs = [.int i, .int j] ∧ Q (.int (if j < i then j else i)) H) pMin2 := by
  intro F A H σ s x p z Q o r e k
  unfold pMin2 at e
  split at e
  · cases e
    obtain ⟨v, u, rfl, h, h'⟩ := rps2 r
    cases h; cases h'
    exact ⟨_, _, rfl, k _ F A H o .refl (.int _)⟩
  · cases e
theorem c_len {K : PySem.W.Frag} (hK : K = C.K) : CallD C (fun xs H Q => ∃ x n, xs = [x] ∧ LenV K x H n ∧ Q (.int n) H) pLen := by
  intro F A H σ s x p z Q o r e k
  unfold pLen at e
  split at e
  · cases e
    obtain ⟨v, rfl, h⟩ := rps1 r
    cases h with
    | @lst a xs l h1 h2 => exact ⟨_, _, rfl, .inl ⟨xs, .of (o.sub _ _ h1), rfl⟩, by rw [h2.length]; exact k _ F A H o .refl (.int _)⟩
  · cases e
    obtain ⟨v, rfl, h⟩ := rps1 r
    cases h with
    | @tup a xs l h1 h2 => exact ⟨_, _, rfl, .inr ⟨xs, by rw [hK]; exact sqT_mono o.sub h1, rfl⟩, by rw [h2.length]; exact k _ F A H o .refl (.int _)⟩
  · cases e
    obtain ⟨v, rfl, h⟩ := rps1 r
    cases h with
    | @scr a xs l h1 h2 => exact ⟨_, _, rfl, .inl ⟨xs, by rw [hK]; exact o.sub.seq h1, rfl⟩, by rw [h2.length]; exact k _ F A H o .refl (.int _)⟩
  · split at e
    · rename_i hl
      cases e
      obtain ⟨v, rfl, h⟩ := rps1 r
      cases h
      exact ⟨_, _, rfl, ⟨line_le hl, rfl⟩, k _ F A H o .refl (.int _)⟩
    · cases e
  · cases e
theorem lst_at {K : PySem.W.Frag} {F H : Hp} {x : List V} {l : List PV} (sm : Same F H) (hK : K = C.K) (r : Rps C F x [.lst l]) : ∃ a xs, x = [.ref a] ∧ SqL K H a xs ∧ Rps C F xs l := by
  obtain ⟨v, rfl, h⟩ := rps1 r
  cases h with
  | @lst a xs l h1 h2 => exact ⟨a, xs, rfl, .of (sm _ _ h1), h2⟩
end
end PL
/-! PL10: more stores, repr, calls with keywords, more walks. -/
namespace PL
open PySem PySem.Spec PyProof.Rows L2
section
variable {X : Cx} {C : Fx} {W : WX} {a b e tg : Expr} {es : List Expr} {pos : Pos} {fa : Stt → Res (List PV)} {fe : Stt → Res PV}
/-- a, b = x, y -/
def gPar (i j : Nat) (fa : Stt → Res (List PV)) : Stt → Fl := fun s => (fa s).fl fun l s1 => match l with
  | [p, q] => .nx (setV j q (setV i p s1))
  | _ => .stuck
def gPar3 (i j l : Nat) (fa : Stt → Res (List PV)) : Stt → Fl := fun s => (fa s).fl fun l' s1 => match l' with
  | [p, q, r] => .nx (setV l r (setV j q (setV i p s1)))
  | _ => .stuck
/-- a list unpacked into names -/
def aLst (n : Nat) (b : List PV → Stt → Option Stt) : PV → Stt → Option Stt
  | .lst l, s => if l.length = n then b l s else none
  | _, _ => none
/-- x += e, x a local name -/
def gAug (i : Nat) (f : PV → PV → Option PV) (fe : Stt → Res PV) : Stt → Fl := fun s => match s.ro[i]? with
  | some (some (.val p)) => (fe s).fl fun q s1 => match f p q with
    | some z => .nx (setV i z s1)
    | none => .stuck
  | _ => .stuck
def pAddI : PV → PV → Option PV
  | .int i, .int j => some (.int (i + j))
  | _, _ => none
end
/-! ### repr -/
def rRepr (K : PySem.W.Frag) : List V → Hp → VK → Prop := fun xs H Q => ∃ x d, xs = [x] ∧ Dp K H x d ∧ (d.showable = true ∧ d.hasDict = false ∧ d.shown.length ≤ sizeLine ∧ d.depth ≤ 30) ∧ Q (.str d.shown) H
theorem call_reprD {X : Cx} (gu : X.A.guards = some []) (hu : X.A.units + 64 < cLine) : CallR X (.builtin "repr") (rRepr X.K) := by
  intro pins s σ H xs us Q I rv h
  obtain ⟨x, d, rfl, hd, ⟨h1, h2, h3, h4⟩, q⟩ := h
  obtain ⟨u, rfl, ru⟩ := vals1 rv
  obtain ⟨as, hr⟩ := Dp.reads I d x u hd ru
  have ref_case : ∀ a, u = Value.ref a → wpAny (model X.prog X.w) X.A (call (.builtin "repr") [u]) (EP X pins σ Q) X.xe s := fun a ea => by
    subst ea
    exact repr_of_reads' hr h1 (PyData.noDict_hsm h2) gu (by omega) (fun _ _ e => e) (fun h' t tk k => ⟨.str d.shown, H, I.kept k, ⟨_, rfl⟩, q⟩) h3
  cases hd with
  | non =>
    cases ru
    exact PySem.P.repr_of_none ⟨.str _, H, I.tok _, ⟨_, rfl⟩, by simpa [PyData.shown] using q⟩
  | bl b =>
    cases ru
    exact PySem.P.repr_of_bool ⟨.str _, H, I.tok _, ⟨_, rfl⟩, by simpa [PyData.shown] using q⟩
  | int i =>
    obtain ⟨t, rfl⟩ := ru
    exact PySem.P.repr_of_int (by simpa [PyData.showable] using h1) ⟨.str _, H, I.tok _, ⟨_, rfl⟩, by simpa [PyData.shown] using q⟩
  | str z =>
    obtain ⟨t, rfl⟩ := ru
    exact PySem.P.repr_of_str ⟨.str _, H, I.tok _, ⟨_, rfl⟩, by simpa [PyData.shown] using q⟩ (by simpa [PyData.shown] using h3)
  | lst _ _ => exact ref_case _ ru
  | tup _ _ => exact ref_case _ ru
def okRepr (d : PyData) : Bool := d.showable && !d.hasDict && decide (d.shown.length ≤ 16777216) && decide (d.depth ≤ 30)
def pRepr : List PV → Option PV
  | [p] => match toD p with
    | some d => if okRepr d = true then some (.str d.shown) else none
    | none => none
  | _ => none
theorem c_repr {K : PySem.W.Frag} {C : Fx} (hK : K = C.K) : CallD C (rRepr K) pRepr := by
  intro F A H σ s x p z Q o r e k
  unfold pRepr at e
  split at e
  · rename_i p
    split at e
    · rename_i d hd
      split at e
      · rename_i ok
        cases e
        obtain ⟨v, rfl, h⟩ := rps1 r
        unfold okRepr at ok
        simp only [Bool.and_eq_true, decide_eq_true_eq, Bool.not_eq_true'] at ok
        refine ⟨v, d, rfl, by rw [hK]; exact dp_mono o.sub (dp_of h hd), ⟨ok.1.1.1, ok.1.1.2, line_le ok.1.2, ok.2⟩, k _ F A H o .refl (.str _)⟩
      · cases e
    · cases e
  · cases e
/-! ### calls with keywords -/
/-- the items of a list by their places -/
def permL {α : Type} (perm : List Nat) (l : List α) : List α := perm.filterMap fun i => l[i]?
section
variable {X : Cx} {C : Fx} {W : WX} {a b c e tg : Expr} {es : List Expr} {kws : List Keyword} {pos p : Pos} {fa fk : Stt → Res (List AV)} {f : Addr} {fd : FuncData} {ps ks : List Str} {k n : Nat} {perm : List Nat} {m : List SV → List MO → FRes} {x : Str} {nm : Option Str} {kpos : Pos} {fe : Stt → Res PV}
theorem RAs.append {σ : L2.St} {F : Hp} {vs vs2 : List V} {as as2 : List AV} (r : RAs C σ F vs as) (r2 : RAs C σ F vs2 as2) : RAs C σ F (vs ++ vs2) (as ++ as2) := by
  induction r with
  | nil => exact r2
  | pv h _ ih => exact .pv h ih
  | sl h _ ih => exact .sl h ih
/-- the values of a call with keywords, in the parameters' order -/
def avK (n m : Nat) (perm : List Nat) (fa fk : Stt → Res (List AV)) : Stt → Res (List AV) := fun s => (fa s).bind fun l s1 => (fk s1).bind fun z s2 => if l.length = n ∧ z.length = m then .ok (permL perm (l ++ z)) s2 else .stuck
end
end PL
/-! PL11: walks over a list or a tuple, range with a step, enumerate, zip, list(range), slices of either. -/
namespace PL
open PySem PySem.Spec PyProof.Rows L2
section
variable {X : Cx} {C : Fx} {W : WX} {a b c e tg : Expr} {es tgs : List Expr} {pos : Pos} {fe fb : Stt → Res PV} {fa : Stt → Res (List PV)}
/-- a list or a tuple is walked -/
def iEith (K : PySem.W.Frag) (tl : TE) : TI := fun σ H R => tl σ H fun x H1 => ∃ a, x = .ref a ∧ (((∃ xs, SqL K H1 a xs) ∧ R (Itl K a) H1) ∨ ((∃ xs, SqT K H1 a xs) ∧ R (Itt K a) H1))
theorem pi_eith {tl : TE} (hl : PE X e tl) : PI X tg e (iEith X.K tl) := by
  refine ⟨?_⟩
  intro pins s σ H R I h
  refine thn (hl.run pins s σ H _ I h) ?_
  rintro v s1 ⟨x, H1, I1, r1, a, rfl, q⟩
  cases r1
  have new : H1 s1.heap.objs.size = none := I1.hok.fresh (Nat.le_refl _)
  have fp : ∀ b ∈ [s1.heap.objs.size], FpOk X pins H1 b := by
    intro b hb
    rw [List.mem_singleton] at hb
    rw [hb]
    exact I1.fpOk (Nat.le_refl _) new
  rcases q with ⟨⟨xs, hq⟩, q⟩ | ⟨⟨xs, hq⟩, q⟩
  · obtain ⟨its, _, p, _⟩ := I1.list hq
    refine wpAny_pyIter_list p.isList ⟨_, [s1.heap.objs.size], _, _, H1, rfl, I1.kept (t' := s1.toks) (fun b o => Heap.get?_push_of_some _), turn_list a _, ?_, fp, q⟩
    exact ⟨_, Heap.get?_push_size _ rfl, rfl, rfl⟩
  · obtain ⟨its, _, p, _⟩ := I1.tuple hq
    refine wpAny_pyIter_tuple (show s1.heap.IsTuple a its.toArray from p) ⟨_, [s1.heap.objs.size], _, _, H1, rfl, I1.kept (t' := s1.toks) (fun b o => Heap.get?_push_of_some _), turn_tuple a _, ?_, fp, q⟩
    exact ⟨_, Heap.get?_push_size _ rfl, rfl, rfl⟩
def iAny (fe : Stt → Res PV) : Stt → Res (List PV) := fun s => (fe s).bind fun p s1 => match p with
  | .lst l => .ok l s1
  | .tup l => .ok l s1
  | .scr l => .ok l s1
  | _ => .stuck
theorem di_any (hK : X.K = C.K) (he : DV X C W e fe) : DI X C W tg e (iAny fe) := by
  obtain ⟨te, pe, qe⟩ := he.pr
  refine ⟨_, pi_eith pe, fun F A H σ s Q o p => ?_⟩
  refine qe F A H σ s _ o (p.seq fun a s1 v F1 A1 H1 _ o1 st1 r1 p1 => ?_)
  cases r1 with
  | @lst b xs l h1 h2 =>
    have hS : ∀ H2, Same F1 H2 → SqL X.K H2 b xs := fun H2 sm => .inl (.inl (sm _ _ h1))
    have hw : Walk (Itl X.K b) l.length (fun H => SqL X.K H b xs) (YAt xs) := by rw [← h2.length]; exact walk_list
    exact ⟨b, rfl, .inl ⟨⟨xs, hS H1 o1.sub⟩, Post.now o1 p1 ⟨_, _, hw, hS, yat_ok h2⟩⟩⟩
  | @scr b xs l h1 h2 =>
    have hS : ∀ H2, Same F1 H2 → SqL X.K H2 b xs := fun H2 sm => by rw [hK]; exact sm.seq h1
    have hw : Walk (Itl X.K b) l.length (fun H => SqL X.K H b xs) (YAt xs) := by rw [← h2.length]; exact walk_list
    exact ⟨b, rfl, .inl ⟨⟨xs, hS H1 o1.sub⟩, Post.now o1 p1 ⟨_, _, hw, hS, yat_ok h2⟩⟩⟩
  | @tup b xs l h1 h2 =>
    have hS : ∀ H2, Same F1 H2 → SqT X.K H2 b xs := fun H2 sm => by rw [hK]; exact sqT_mono sm h1
    have hw : Walk (Itt X.K b) l.length (fun H => SqT X.K H b xs) (YAt xs) := by rw [← h2.length]; exact walk_tup
    exact ⟨b, rfl, .inr ⟨⟨xs, hS H1 o1.sub⟩, Post.now o1 p1 ⟨_, _, hw, hS, yat_ok h2⟩⟩⟩
  | _ => exact p1.elim
/-- range(i, j, c) -/
def rngC (i c : Int) (n : Nat) : List PV := (List.range n).map fun k : Nat => PV.int (i + k * c)
def okR3 (i j c : Int) : Bool := decide (c ≠ 0 ∧ c.natAbs < 1073741824 ∧ Builtin.Range.small i j c = true)
def iRange3 (fa : Stt → Res (List PV)) : Stt → Res (List PV) := fun s => (fa s).bind fun p s1 => match p with
  | [.int i, .int j, .int c] => if okR3 i j c = true ∧ 0 ≤ Builtin.Range.rangeSize i j c then .ok (rngC i c (Builtin.Range.rangeSize i j c).toNat) s1 else .stuck
  | _ => .stuck
def zipP (x y : List PV) : List PV := List.zipWith (fun p q => PV.tup [p, q]) x y
def enumP (x : List PV) : List PV := zipP ((List.range x.length).map fun i : Nat => PV.int i) x
/-- a slice of a list, a tuple, the script -/
def eSl (fa : Stt → Res PV) (fl fh : Stt → Res (Option Int)) : Stt → Res PV := fun s => (fa s).bind fun p s1 => (fl s1).bind fun lo s2 => (fh s2).bind fun hi s3 => match p with
  | .tup l => .ok (.tup (pCut l lo hi)) s3
  | .lst l => .ok (.lst (pCut l lo hi)) s3
  | .scr l => .ok (.lst (pCut l lo hi)) s3
  | _ => .stuck
/-- list(range(n)), list(range(i, j)) -/
noncomputable def oRg (i j : Int) (s : Stt) : Res MO := if (inR i && inR j) = true ∧ j - i ≤ 16777216 then .ok (.lst (rng i (j - i).toNat)) s else .stuck
noncomputable def oRg1 (fa : Stt → Res PV) : Stt → Res MO := fun s => (fa s).bind fun p s1 => match p with
  | .int j => oRg 0 j s1
  | _ => .stuck
noncomputable def oRg2 (fa fb : Stt → Res PV) : Stt → Res MO := fun s => (fa s).bind fun p s1 => (fb s1).bind fun q s2 => match p, q with
  | .int i, .int j => oRg i j s2
  | _, _ => .stuck
end
end PL
/-! PL12: a list grows; a pair of a value and a new list. -/
namespace PL
open PySem PySem.Spec PyProof.Rows L2
section
variable {X : Cx} {C : Fx} {W : WX} {a b e : Expr} {pos : Pos} {fa fb fe : Stt → Res PV} {fo : Stt → Res MO}
def gParO (i j : Nat) (fa : Stt → Res PV) (fo : Stt → Res MO) : Stt → Fl := fun s => (fa s).fl fun p s1 => (fo s1).fl fun m s2 => if j < s2.ro.length then .nx (setV i p (setO j m s2)) else .stuck
theorem ds_parO {i j : Nat} {x y : Str} {px py pt : Pos} {kt k2 pt2} (hc : X.calm = true) (hN : X.N.Nodup) (hi : X.N[i]? = some x) (hj : X.N[j]? = some y) (hij : i ≠ j)
    (hx : X.env.scope.names.lookup x = some .local) (hy : X.env.scope.names.lookup y = some .local) (ha : DV X C W a fa) (hb : DO X C W b fo)
    (hw : swappedStores [.Tuple [.Name x px, .Name y py] kt pt] (.Tuple [a, b] k2 pt2) X.env = pure (some [x, y]))
    (hs : swapsWithSole [.Tuple [.Name x px, .Name y py] kt pt] (.Tuple [a, b] k2 pt2) pos.line X.env = pure false := by rfl)
    (he : starEach [a, b] X.env = (false, eval a X.env) :: starEach [b] X.env := by rfl) (he2 : starEach [b] X.env = (false, eval b X.env) :: starEach [] X.env := by rfl) :
    DS X C W (.Assign [.Tuple [.Name x px, .Name y py] kt pt] (.Tuple [a, b] k2 pt2) pos) (gParO i j fa fo) := by
  obtain ⟨ta, pa, qa⟩ := ha.pr
  obtain ⟨tb, pb, qb⟩ := hb.pr
  refine ⟨_, ps_par hc hN hi hj hij hx hy (pa_cons pa (pa_cons pb pa_nil he2) he) hw hs, fun F A H σ s D o p => ?_⟩
  refine qa F A H σ s _ o (PostS.seq p fun v s1 xv F1 A1 H1 _ o1 st1 r1 p1 => ?_)
  refine qb F1 A1 H1 σ s1 _ o1 ?_
  cases hr : fo s1 with
  | ok m s2 =>
    rw [hr] at p1
    intro q F' A' H' o2 st2 fr
    simp only [Res.fl] at p1
    split at p1
    · rename_i hl
      obtain ⟨A2, o3, st3⟩ := o2.setO st2 fr hl
      obtain ⟨o4, st4⟩ := o3.setV (i := i) (r1.mono st3.s1)
      refine ⟨_, _, rfl, ?_⟩
      rw [List.set_comm _ _ (Ne.symm hij)] at o4
      exact p1 _ _ _ _ o4 (st3.trans st4)
    · exact p1.elim
  | ex c v s2 => rw [hr] at p1; exact fun d F' A' H' => p1 d σ F' A' H'
  | stuck => rw [hr] at p1; exact p1
def gApp (i : Nat) (fe : Stt → Res PV) : Stt → Fl := fun s => (getM s i).elim .stuck fun km => match km.2 with
  | .lst _ => (fe s).fl fun p s1 => match getM s1 i with
    | some (k, .lst l) => if l.length < 16777216 then .nx (setK s1 k (.lst (l ++ [p]))) else .stuck
    | _ => .stuck
  | _ => .stuck
theorem ds_app (i : Nat) {x : Str} {p p2 p3 : Pos} (he : DV X C W e fe) (hN : X.N[i]? = some x := by rfl) (hvis : Vis X.env.scope x := by first | exact Or.inl rfl | exact Or.inr (Or.inl rfl) | exact Or.inr (Or.inr rfl)) (hd : (x == ("__debug__" : Str)) = false := by decide)
    (hcd : (x == ("__classdict__" : Str)) = false := by decide) (hs : swapsWith (.Call (.Attribute (.Name x p) "append" p2) [e] [] p3) none pos.line X.env = pure false := by rfl)
    (hbase : attributeBase (.Name x p) "append" X.env (eval (.Name x p) X.env) = eval (.Name x p) X.env := by rfl)
    (hfew : ((backTo p3 (starEach [e] X.env)).all (fun x => !x.1) && (backToKw p3 (keywordEach [] X.env)).all (fun x => x.1.isSome)
      && decide (([e] : List Expr).length + ([] : List Keyword).length + (if ([] : List Keyword).isEmpty then 0 else 1) < 30)) = true := by rfl)
    (hline : (p2.endLine == p3.line) = true := by rfl) (hst : starEach [e] X.env = (false, eval e X.env) :: starEach [] X.env := by rfl) (hplain : (backTo p3 (starEach [] X.env)).any (·.1) = false := by rfl) :
    DS X C W (.Expr (.Call (.Attribute (.Name x p) "append" p2) [e] [] p3) pos) (gApp i fe) := by
  obtain ⟨te, pe, qe⟩ := he.pr
  refine ⟨_, ps_expr (pe_bm PySem.F.plainAttrs_list PySem.F.slot_list_append PySem.F.type_list_append mt_append (pe_var (i := i) hN hvis hd hcd) (pa_cons pe pa_nil hst) hbase hfew hline hst hplain) hs, fun F A H σ s D o pp => ?_⟩
  cases e0 : getM s i with
  | none => unfold gApp at pp; rw [e0] at pp; exact pp.elim
  | some km =>
    obtain ⟨k0, m0⟩ := km
    unfold gApp at pp
    rw [e0] at pp
    simp only [Option.elim_some] at pp
    cases m0 with
    | lst l0 =>
      simp only at pp
      obtain ⟨_, g0, ⟨_, xs0, hx0, _⟩⟩ := mut_at o e0
      refine ⟨_, g0, .inl ⟨rfl, _, SqL.of hx0⟩, ?_⟩
      refine qe F A H σ s _ o (PostS.seq pp fun pv s1 xv F1 A1 H1 _ o1 st1 r1 p1 => ?_)
      cases e1 : getM s1 i with
      | none => simp only [e1] at p1; exact p1.elim
      | some km2 =>
        obtain ⟨k, m⟩ := km2
        simp only [e1] at p1
        cases m with
        | lst l =>
          simp only at p1
          split at p1
          · rename_i hl
            obtain ⟨g1, g2, g3⟩ := mut_at o1 e1
            obtain ⟨_, xs, hx, hr⟩ := g3
            rw [g0] at g2
            have ea : adr σ C k0 = adr σ C k := V.ref.inj (Option.some.inj (Option.some.inj g2))
            refine ⟨_, xs, xv, rfl, rfl, by rw [ea]; exact hx, by rw [hr.length]; exact hl, ?_⟩
            rw [ea]
            obtain ⟨o3, st3⟩ := o1.updL g1 (Rps.append hr (.cons r1 .nil))
            exact p1 _ _ _ _ o3 st3
          · exact p1.elim
        | _ => exact p1.elim
    | _ => exact pp.elim
end
end PL
/-! PXE: an own error whose __init__ says super().__init__(value) and keeps value; its classes' classes. -/
namespace PXE
open PySem PySem.W PySem.Calls PyProof.Rows PySem.HandSPX
def xA (p1 p2 : Pos) : Arguments := { posonlyargs := [], args := [{ arg := "self", annotation := none, pos := p1 }, { arg := "value", annotation := none, pos := p2 }], vararg := none, kwonlyargs := [], kw_defaults := [], kwarg := none, defaults := [] }
abbrev xC (n : Nat) : Expr := .Call (.Attribute (.Call (.Name "super" ⟨n, 8, n, 13⟩) [] [] ⟨n, 8, n, 15⟩) "__init__" ⟨n, 8, n, 24⟩) [.Name "value" ⟨n, 25, n, 30⟩] [] ⟨n, 8, n, 31⟩
def xB (n : Nat) (q1 q2 q3 q4 : Pos) : List Stmt := [.Expr (xC n) ⟨n, 8, n, 31⟩, .Assign [.Attribute (.Name "self" q1) "value" q2] (.Name "value" q3) q4]
def xS : Scope := { kind := .function, names := [(PySem.Str.ofString "self", .local), (PySem.Str.ofString "value", .local), (PySem.Str.ofString "__class__", .free), (PySem.Str.ofString "super", .globalImplicit)], isGenerator := false, isCoroutine := false, more := [] }
abbrev veBm : List Value := [.type "ValueError", .type "Exception", .type "BaseException", .type "object"]
/-- what the written part says of an error class nm at C; D: the class whose __init__ stands at fI -/
structure ErrTxt (prog : Program) (K : Frag) (mg : Str → Option Value) (nm : Str) (C D fI : Addr) : Prop where
  gC : mg nm = some (.ref C)
  cls : ∃ n q N bs bm sn sub ab col dd k0 k1 k2 k3 k5, K.lookup C = some (excClassObj n q C N bs bm true sn sub ab col dd k0 k1 k2 k3 k5 "ValueError.__new__") ∧ refsVE bm = true
  sa : findIn K (.ref C) "__setattr__" = some (some (.builtin "object.__setattr__"))
  ga : findIn K (.ref C) "__getattribute__" = some (some (.builtin "BaseException.__getattribute__"))
  gg : findIn K (.ref C) "__getattr__" = some none
  noN : findIn K (.ref C) "value" = some none
  iC : findIn K (.ref C) "__init__" = some (some (.ref fI))
  tC : typeIn K (.ref fI) = some (.type "function")
  kC : keepIn K (.ref C) = true
  exC : subIn K (.ref C) (.type "BaseException") = some true
  veC : subIn K (.ref C) (.type "ValueError") = some true
  tyC : typeIn K (.ref C) = some (.type "type")
  hdC : hasDictIn K C = true
  te : exmOne K (.ref C) (.ref C) = some true
  sup : ks_superIn K C D "__init__" = some (some (.builtin "ValueError.__init__"))
  any : nsIn K cStatics "thirdparty.any" = some none
  mroD : mroIn K C (.ref D) = some true
  clsD : ∃ cdD, clsIn K D = some cdD
  nsup : mg "super" = none
  top : (prog.main.scope.names.lookup ("super" : Str)).isSome = false
  fn : ∃ (oc : Value) (od : Option Addr) (doc pm : Value) (an : Option Addr) (cda cc : Addr) (ct : Value) (osl : Array (Option Value)) (n : Nat) (p1 p2 q1 q2 q3 q4 : Pos) (ccl cl : Value) (cdd cld : Option Addr) (vs : Array Value) (ccs csl : Array (Option Value)) (file : Str) (tf : Tok),
    K.lookup fI = some ⟨oc, od, .func (ksFn "__init__" "StrideError.__init__" (xA p1 p2) (xB n q1 q2 q3 q4) xS .none .none doc pm an (.ref cda) ct cc), osl⟩ ∧ codeIn K (.ref cda) "StrideError.__init__" = true ∧
    K.lookup cda = some ⟨ccl, cdd, .fields vs, ccs⟩ ∧ vs[2]? = some (.str file tf) ∧ ((prog.main.file : Str) == file) = true ∧ K.lookup cc = some ⟨cl, cld, .cell (some (.ref D)), csl⟩ ∧ (n = 5 ∨ n = 8)
theorem one_len (v : Value) : [v].length ≤ sizeLine := by
  rw [sizeLine_eq]
  exact (by decide : 1 ≤ 16777216)
section
variable {prog : Program} {w : World} {A : Around} {E : Value → Shared → Prop} {R : Result → Shared → Prop} {s : Shared} {K : Frag} {mg mb : Str → Option Value} {nm : Str} {C D fI : Addr}
/-- the built-in __init__, bound to x at u, called: the args are laid anew -/
theorem bound_call (T : ErrTxt prog K mg nm C D fI) {u x t0 : Addr} {v : Value} {Q : Value → Shared → Prop} (X : K.In s.heap) (hx : s.heap.get? x = some (excO C t0)) (hu : s.heap.get? u = some (kxs_mw "ValueError.__init__" x))
    (hq : ∀ h', (∀ b o, b ≠ x → s.heap.get? b = some o → h'.get? b = some o) → h'.get? x = some (excO C s.heap.objs.size) → Q .none { s with heap := h' }) :
    wpAny (model prog w) A (call (.ref u) [v]) Q E s := by
  obtain ⟨n, q, N, bs, bm, sn, sub, ab, col, dd, k0, k1, k2, k3, k5, hC, hbm⟩ := T.cls
  obtain ⟨hp, g, d, tk, os⟩ := s
  refine wpAny_call (codeAny_of_tree ?_)
  show wpAny _ A.in1 (callAny (.ref u) ⟨[v], []⟩) _ _ _
  unfold callAny
  refine wpAny_bind (wpAny_load hu ?_)
  have e1 : (Value.type "method-wrapper" == Value.type "method" || Value.type "method-wrapper" == Value.type "builtin_function_or_method" || Value.type "method-wrapper" == Value.type "method-wrapper") = true := by decide
  dsimp only [kxs_mw]
  rw [if_pos e1]
  refine KFB.if_so (by decide) (wpAny_bind (check_bound_init F.excBase_ValueError.toExcCallFacts (X _ _ hC) hx rfl (wpAny_bind (wpAny_pure (wpAny_pure ⟨plainId_quiet F.excBase_ValueError.init.plain _, codeAny_builtin F.excBase_ValueError.initEntry ?_⟩)))))
  exact exc_init_tree (cls := .ref C) (t0 := t0) (dv := none) (c2 := .none) (c3 := .none) (b4 := .bool false) hx (one_len v) fun h' k' e' _ => hq h' k' e'
/-- what __init__ leaves of a fresh exception at x -/
structure Left (h h' : Heap) (x C dx t1 : Addr) (v : Value) : Prop where
  keep : ∀ b o, b ≠ x → h.get? b = some o → h'.get? b = some o
  obj : h'.get? x = some { cls := .ref C, dict := some dx, data := .fields #[.ref t1, .none, .none, .none, .bool false, .none] }
  dbig : h.objs.size ≤ dx
  dne : dx ≠ x
  ns : h'.Ns1 dx (fun y => if y = "value" then some v else none)
theorem locC {M : Model} {env : Env} {m : Str → Option Value} {x : Str} {pos : Pos} {v : Value} {Q : Value → Shared → Prop} (hn : s.heap.Ns env.locals m) (hv : m x = some v) (h : Q v s)
    (hk : env.scope.kind = .function := by rfl) (hl : env.kindOf x = some .local := by rfl) (hd : (x == ("__debug__" : Str)) = false := by decide) :
    wpAny M A (eval (.Name x pos) env) Q E s := wpAny_Name (wpAny_loadName_local hk hl hn hv h) hd
theorem err_init (T : ErrTxt prog K mg nm C D fI) {x t0 : Addr} {v : Value} {args : Args} (hba : args = ⟨[.ref x, v], []⟩ ∨ args = ⟨[.ref x], [("value", v)]⟩) (X : K.In s.heap) (hg : s.heap.Ns mainGlobals mg) (hb : s.heap.Ns builtinsNs mb) (hbt : ∀ y : Str, y ≠ "__name__" → mb y = bootBuiltins y) (hlim : s.heap.NoLimit) (hx : s.heap.get? x = some (excO C t0)) (hnx : K.lookup x = none) (hroom : A.depth < recursionLimit)
    (hq : ∀ h' tk dx t1, Left s.heap h' x C dx t1 v → R (.ok (.ret .none)) { s with heap := h', toks := tk }) :
    codeAny (model prog w) A (.call (.ref fI) args) R s := by
  obtain ⟨oc, od, doc, pm, an, cda, cc, ct, osl, n, p1, p2, q1, q2, q3, q4, ccl, cl, cdd, cld, vs, ccs, csl, file, tf, ho, hcd, hcode, hvs, hfile, hcell, hnn⟩ := T.fn
  obtain ⟨nn, q, N, bs, bm, sn, sub, ab, col, dd, k0, k1, k2, k3, k5, hC, hbm⟩ := T.cls
  have hcl : clsIn K C = some { name := nn, bases := bs, mro := .ref C :: bm, ns := N, qualname := q, hasDict := true, slotNames := sn, subclasses := sub, abstract := ab, collection := col, hasDel := false } := by unfold clsIn; rw [hC] <;> rfl
  have hsup : alongIn K "__init__" (((Value.ref C :: bm).dropWhile (· != .ref D)).drop 1) = some (some (.builtin "ValueError.__init__")) := by
    have z := T.sup
    unfold ks_superIn at z
    rw [hcl, Option.bind_some] at z
    exact z
  obtain ⟨cdD, hD⟩ := T.clsD
  have c1 : ∀ y ∈ xS.names, y.2 ≠ .cell := by decide
  have c2 : ∀ y ∈ [(("self" : Str), Value.ref x), ("value", v)], xS.names.lookup y.1 = some .local := by
    intro y hy
    rcases List.mem_cons.mp hy with rfl | hy
    · exact (by decide +kernel : xS.names.lookup ("self" : Str) = some .local)
    · rcases List.mem_cons.mp hy with rfl | hy
      · exact (by decide +kernel : xS.names.lookup ("value" : Str) = some .local)
      · cases hy
  refine ks_codeAny_call_defAt (fd := ksFn "__init__" "StrideError.__init__" (xA p1 p2) (xB n q1 q2 q3 q4) xS .none .none doc pm an (.ref cda) ct cc) (body := xB n q1 q2 q3 q4) (binds := [("self", .ref x), ("value", v)])
    hroom (X _ _ ho) rfl hlim (codeRec_of X hcd) rfl (BindsTo.of_eq (by rcases hba with rfl | rfl <;> first | rfl | with_unfolding_all rfl)) c1 c2 (fun h₁ hn k => ?_)
  have X₁ : K.In h₁ := X.keeps k
  have hxL : s.heap.objs.size ≠ x := Nat.ne_of_gt (Heap.lt_size hx)
  have hx₁ := k _ _ hx
  have hLz : s.heap.objs.size < h₁.objs.size := hn.lt
  obtain ⟨oD, hD1, hD2⟩ : ∃ oD, h₁.get? D = some oD ∧ oD.data = .cls cdD := by
    unfold clsIn at hD
    split at hD
    · rename_i c d cd' sl hoD
      cases hD
      exact ⟨_, X₁ _ _ hoD, rfl⟩
    · cases hD
  have hxC : x ≠ C := by
    intro z
    have e := X _ _ hC
    rw [← z, hx] at e
    cases e
  -- super().__init__(value)
  obtain ⟨pl, he⟩ : ∃ pl : Sem Bool, eval (xC n) (ksEnv "StrideError.__init__" xS s.heap.objs.size fI (.ref cda) cc) = (do
      let ov ← attributeBase (.Call (.Name "super" ⟨n, 8, n, 13⟩) [] [] ⟨n, 8, n, 15⟩) "__init__" (ksEnv "StrideError.__init__" xS s.heap.objs.size fI (.ref cda) cc) (eval (.Call (.Name "super" ⟨n, 8, n, 13⟩) [] [] ⟨n, 8, n, 15⟩) (ksEnv "StrideError.__init__" xS s.heap.objs.size fI (.ref cda) cc))
      standAt (Pos.atName ⟨n, 8, n, 24⟩)
      let (f, first) ← holding [ov] (getMethod ov "__init__" pl)
      callWith ⟨n, 8, n, 31⟩ f first (backTo ⟨n, 8, n, 31⟩ (starEach [.Name "value" ⟨n, 25, n, 30⟩] (ksEnv "StrideError.__init__" xS s.heap.objs.size fI (.ref cda) cc))) []) := by
    rcases hnn with rfl | rfl <;> exact ⟨_, rfl⟩
  refine ks_wpAt_execs_cons (ks_wpAt_Expr_any (ks_wpAt_MethodCall (pl := pl) ?_ he))
  refine ks_wpAt_super_base (env := ksEnv "StrideError.__init__" xS s.heap.objs.size fI (.ref cda) cc) rfl rfl rfl rfl (X₁ _ _ ho) rfl rfl rfl (X₁ _ _ hcode) rfl hvs hfile T.top ?_
  refine ks_loadName_global rfl rfl (loadGlobal_builtin (env := ksEnv "StrideError.__init__" xS s.heap.objs.size fI (.ref cda) cc) (hg.keeps k) T.nsup (hb.keeps k) ((hbt _ (by decide +kernel)).trans (by first | rfl | kernel_rfl | decide +kernel)) ⟨rfl, ?_⟩)
  refine wpAny_loadName_free rfl rfl rfl ⟨_, X₁ _ _ hcell, rfl⟩ ?_
  refine wpAny_loadName_local rfl rfl hn (by first | rfl | with_unfolding_all rfl | kernel_rfl) ?_
  refine ks_wpAny_isType_cls hD1 hD2 ⟨rfl, ?_⟩
  refine ks_wpAny_call_super hD1 hD2 hx₁ rfl (fun c e => by cases e) (looks_mroIn X₁ T.mroD) (fun h2 e2 k2 => ?_)
  have kk : ∀ b o, s.heap.get? b = some o → h2.get? b = some o := fun b o e => k2 b o (k b o e)
  have X₂ : K.In h2 := X.keeps kk
  have I₂ : InstAt h2 x (excO C t0) C none := ⟨k2 _ _ hx₁, rfl, rfl, trivial⟩
  refine kxs_getMethod (K := K) (C := C) (D := D) kxs_ValueError e2 (looks_opaque X₂ T.any) (l₀ := .ref C :: bm) (l := ((Value.ref C :: bm).dropWhile (· != .ref D)).drop 1) (fun A Q E s k q => wpAny_bind ((looks_clsIn X₂ hcl) A _ E s k (wpAny_pure q))) rfl X₂ hsup (I₂.type.andThen (looks_subIn X₂ T.veC)) hxC rfl ?_
  have hu : (h2.push (kxs_mw "ValueError.__init__" x)).get? h2.objs.size = some (kxs_mw "ValueError.__init__" x) := Heap.get?_push_at rfl rfl
  have k3 : ∀ b o, s.heap.get? b = some o → (h2.push (kxs_mw "ValueError.__init__" x)).get? b = some o := fun b o e => Heap.get?_push_of_some _ (kk b o e)
  have hn3 : (h2.push (kxs_mw "ValueError.__init__" x)).Ns s.heap.objs.size (fun y => [(("self" : Str), Value.ref x), ("value", v)].reverse.lookup y) := hn.keeps fun b o e => Heap.get?_push_of_some _ (k2 b o e)
  refine kxs_callWith (i := "ValueError.__init__") (x := x) rfl (Calls.evalArgs_plain (Calls.spliced_cons (locC (v := v) hn3 (by first | rfl | with_unfolding_all rfl | kernel_rfl) (Calls.spliced_nil ⟨hu, ?_⟩))))
  refine bound_call T (s := ⟨h2.push (kxs_mw "ValueError.__init__" x), _, _, _, _⟩) (X.keeps k3) (k3 _ _ hx) hu (fun h4 k4 hx4 => ?_)
  -- self.value = value
  have hxs : x ≠ s.heap.objs.size := Ne.symm hxL
  have k5 : ∀ b o, b ≠ x → s.heap.get? b = some o → h4.get? b = some o := fun b o hb e => k4 b o hb (k3 b o e)
  have X₄ : K.In h4 := fun a o e => k5 a o (fun z => by rw [z, hnx] at e; cases e) (X a o e)
  have hn4 : h4.Ns s.heap.objs.size (fun y => [(("self" : Str), Value.ref x), ("value", v)].reverse.lookup y) := by
    obtain ⟨oL, es, ep, hL, r⟩ := hn3
    exact ⟨oL, es, ep, k4 _ _ hxL hL, r⟩
  refine ks_wpAt_execs_cons (ks_wpAt_Assign_Attr (wpAt_of_wpAny (locC (v := v) hn4 (by first | rfl | with_unfolding_all rfl | kernel_rfl) (locC (v := .ref x) hn4 (by first | rfl | with_unfolding_all rfl | kernel_rfl) ?_))))
  refine set_plain X₄ (ox := excO C _) (od := none) ⟨hx4, rfl, rfl, trivial⟩ T.sa ?_
  refine exc_osa X₄ hx4 hcl (show refsVE (.ref C :: bm) = true from hbm) rfl T.noN (fun h6 tk6 dx k6 dn dne hx6 hn6 => ?_)
  refine wpAt_of_wpAny (wpAny_execs_nil (hq h6 tk6 dx _ ⟨fun b o hb e => k6 b o hb (k5 b o hb e), hx6, ?_, dne, hn6⟩))
  exact Nat.le_of_lt (Nat.lt_of_lt_of_le hn4.lt dn)
/-- a made error -/
structure Made (h h' : Heap) (e C d : Addr) (v : Value) : Prop where
  keep : ∀ b o, h.get? b = some o → h'.get? b = some o
  new : h.objs.size ≤ e
  obj : ∃ oe vs, h'.get? e = some oe ∧ oe.cls = .ref C ∧ oe.dict = some d ∧ oe.data = .fields vs ∧ vs[1]? = some .none
  dbig : h.objs.size ≤ d
  dne : d ≠ e
  ns : h'.Ns1 d (fun y => if y = "value" then some v else none)
theorem err_made (T : ErrTxt prog K mg nm C D fI) {v : Value} (X : K.In s.heap) (hg : s.heap.Ns mainGlobals mg) (hb : s.heap.Ns builtinsNs mb) (hbt : ∀ y : Str, y ≠ "__name__" → mb y = bootBuiltins y) (hlim : s.heap.NoLimit) (hroom : A.depth + 1 < recursionLimit)
    (hq : ∀ h' tk e d, Made s.heap h' e C d v → R (.ok (.ret (.ref e))) { s with heap := h', toks := tk }) :
    codeAny (model prog w) A (.call (.ref C) ⟨[v], []⟩) R s := by
  obtain ⟨nn, q, N, bs, bm, sn, sub, ab, col, dd, k0, k1, k2, k3, k5, hC, hbm⟩ := T.cls
  obtain ⟨hp, g, dr, tk, os⟩ := s
  have k : ∀ b o, hp.get? b = some o → ((hp.push (kdv_tup [v])).push (excO C hp.objs.size)).get? b = some o := fun b o e => Heap.get?_push_of_some _ (Heap.get?_push_of_some _ e)
  have hget : ((hp.push (kdv_tup [v])).push (excO C hp.objs.size)).get? (hp.objs.size + 1) = some (excO C hp.objs.size) := by heap_get
  have hnx : K.lookup (hp.objs.size + 1) = none := by
    cases e : K.lookup (hp.objs.size + 1) with
    | none => rfl
    | some o => exact absurd (Nat.lt_of_succ_lt (Heap.lt_size (show hp.get? (hp.objs.size + 1) = some o from X _ _ e))) (Nat.lt_irrefl _)
  refine call_own F.excBase_ValueError (fun Y => refsVE_contains Y bm hbm) (X _ _ hC) (looks_findIn X T.iC) (fun self => bind_fn X self T.tC) (one_len v) ?_
  refine err_init (s := ⟨(hp.push (kdv_tup [v])).push (excO C hp.objs.size), g, dr, tk, os⟩) T (.inl rfl) (X.keeps k) (hg.keeps k) (hb.keeps k) hbt (hlim.keeps k) hget hnx hroom fun h' tk' dx t1 L => ?_
  obtain ⟨k', hx, dn, dne, hns⟩ := L
  have old : ∀ b o, hp.get? b = some o → h'.get? b = some o := fun b o e => k' b o (Nat.ne_of_lt (Nat.lt_succ_of_lt (Heap.lt_size e))) (k b o e)
  have z : hp.objs.size ≤ dx := by
    have q := dn
    rw [Heap.size_push, Heap.size_push] at q
    omega
  exact ⟨rfl, hq h' tk' (hp.objs.size + 1) dx ⟨old, Nat.le_succ _, ⟨_, _, hx, rfl, rfl, rfl, rfl⟩, z, dne, hns⟩⟩
end
end PXE
/-! PL13: raise E(v), E an own error. -/
namespace PL
open PySem PySem.Spec PyProof.Rows L2
theorem rel_err {v : V} {v' : Value} (r : RelV v v') (f : Str) : RelO (List.lookup f [(("value" : Str), v)]) (if f = "value" then some v' else none) := by
  by_cases hw : f = "value"
  · subst hw
    rw [if_pos rfl, show List.lookup ("value" : Str) [(("value" : Str), v)] = some v by simp [List.lookup]]
    exact r
  · rw [if_neg hw, show List.lookup f [(("value" : Str), v)] = none by simp [List.lookup, show (f == ("value" : Str)) = false by simpa using hw]]
    trivial
/-- an object laid that the state does not know -/
theorem OkF.laidX {C : Fx} {F H : Hp} {A : Nat → List Addr} {σ : L2.St} {s : Stt} {p : Addr} {u : HO} (o : OkF C F A H σ s) (hp : H p = none) : OkF C F A (L2.upd H p u) σ s ∧ Step C F A H F A (L2.upd H p u) := by
  have sH : Same H (L2.upd H p u) := fun b z e => by rw [L2.upd_ne (ne_of_none e hp)]; exact e
  have nA : ∀ i, p ∉ A i := fun i z => (o.free i p z).2 hp
  refine ⟨⟨o.len, o.sub.trans sH, o.val, fun i m e => ?_, o.nb, o.lent, fun q m e => (o.bor q m e).keep (fun _ _ h => h) fun b x _ => sH b x, fun b' b hb => ?_, o.dis, o.freeB, o.disB, ⟨o.ext.1, o.ext.2.ext0 sH⟩⟩, ⟨fun _ _ h => h, fun _ h => .inl h, fun _ h => .inl h, fun b x e _ _ _ => sH b x e, fun b hb => ?_⟩⟩
  · obtain ⟨q, h1, h2⟩ := o.own i m e
    exact ⟨q, h1, h2.keep (fun _ _ h => h) fun b x _ => sH b x⟩
  · obtain ⟨h1, h2⟩ := o.free b' b hb
    have hne : b ≠ p := fun z => nA b' (z ▸ hb)
    exact ⟨h1, by rw [L2.upd_ne hne]; exact h2⟩
  · by_cases hbp : b = p
    · subst hbp; rw [L2.upd_same]; simp
    · rw [L2.upd_ne hbp]; exact hb
end PL
/-! PL14: the written part's facts of an error class. -/
namespace PXE
open PySem PySem.W PySem.Calls PyProof.Rows PySem.HandSPX
/-- where a class of the module lies -/
def clOf (K : Frag) (nm : Str) : Addr := match nsIn K mainGlobals nm with
  | some (some (.ref a)) => a
  | _ => 0
theorem clOf_at {K : Frag} {nm : Str} {C : Addr} (h : nsIn K mainGlobals nm = some (some (.ref C))) : clOf K nm = C := by
  unfold clOf
  rw [h]
theorem exm_of {K : Frag} {S T : Addr} (h1 : subIn K (.ref S) (.type "BaseException") = some true) (h2 : isClsIn K S = true) (h3 : typeIn K (.ref S) = some (.type "type")) {b : Bool} (h4 : subIn K (.ref T) (.ref S) = some b) : exmOne K (.ref T) (.ref S) = some b := by
  have e1 : (subIn K (.ref S) (.type "BaseException") == some true) = true := by rw [h1] <;> rfl
  have e2 : ((clsIn K S).isSome && typeIn K (.ref S) == some (.type "type")) = true := by
    have h2' : (clsIn K S).isSome = true := h2
    rw [h2', h3] <;> rfl
  show (if (subIn K (.ref S) (.type "BaseException") == some true) = true then (if ((clsIn K S).isSome && typeIn K (.ref S) == some (.type "type")) = true then subIn K (.ref T) (.ref S) else none) else none) = some b
  rw [if_pos e1, if_pos e2]
  exact h4
theorem along_ve (K : Frag) : alongIn K "__init__" veBm = some (some (.builtin "ValueError.__init__")) := by kernel_rfl
theorem sup_of {K : Frag} {C D N : Addr} {n q : Str} {bs : List Value} {sn : List Str} {sub : List Value} {ab : Bool} {col : Option Bool} {dd : Option Addr} {k0 k1 k2 k3 k5 : Option Value}
    (xC : K.lookup C = some (excClassObj n q C N bs (.ref D :: veBm) true sn sub ab col dd k0 k1 k2 k3 k5 "ValueError.__new__")) (ne : (Value.ref C != Value.ref D) = true) : ks_superIn K C D "__init__" = some (some (.builtin "ValueError.__init__")) := by
  have hcl : clsIn K C = some { name := n, bases := bs, mro := .ref C :: .ref D :: veBm, ns := N, qualname := q, hasDict := true, slotNames := sn, subclasses := sub, abstract := ab, collection := col, hasDel := false } := by unfold clsIn; rw [xC] <;> rfl
  unfold ks_superIn
  rw [hcl, Option.bind_some]
  have e : ((Value.ref C :: Value.ref D :: veBm).dropWhile (· != .ref D)).drop 1 = veBm := by
    rw [List.dropWhile_cons, if_pos ne, List.dropWhile_cons, if_neg (by simp)]
    rfl
  show alongIn K "__init__" (((Value.ref C :: Value.ref D :: veBm).dropWhile (· != .ref D)).drop 1) = _
  rw [e]
  exact along_ve K
theorem err_mk {prog : Program} {K : Frag} {h : Heap} {mg : Str → Option Value} {nm : Str} (X : K.In h) (G : h.Ns mainGlobals mg) {C D fI cda cc N : Addr} {n q file : Str} {bs : List Value} {sn : List Str} {sub : List Value} {ab : Bool} {col : Option Bool} {dd od an cdd cld : Option Addr} {k0 k1 k2 k3 k5 : Option Value}
    {oc doc pm ct ccl cl : Value} {osl ccs csl : Array (Option Value)} {ln : Nat} {p1 p2 q1 q2 q3 q4 : Pos} {vs : Array Value} {tf : Tok}
    (aC : nsIn K mainGlobals nm = some (some (.ref C)))
    (xC : K.lookup C = some (excClassObj n q C N bs (.ref D :: veBm) true sn sub ab col dd k0 k1 k2 k3 k5 "ValueError.__new__")) (ne : (Value.ref C != Value.ref D) = true)
    (sa : findIn K (.ref C) "__setattr__" = some (some (.builtin "object.__setattr__"))) (ga : findIn K (.ref C) "__getattribute__" = some (some (.builtin "BaseException.__getattribute__"))) (gg : findIn K (.ref C) "__getattr__" = some none) (nv : findIn K (.ref C) "value" = some none)
    (iC : findIn K (.ref C) "__init__" = some (some (.ref fI))) (tC : typeIn K (.ref fI) = some (.type "function"))
    (l1 : K.lookup fI = some ⟨oc, od, .func (ksFn "__init__" "StrideError.__init__" (xA p1 p2) (xB ln q1 q2 q3 q4) xS .none .none doc pm an (.ref cda) ct cc), osl⟩) (c1 : codeIn K (.ref cda) "StrideError.__init__" = true)
    (lc : K.lookup cda = some ⟨ccl, cdd, .fields vs, ccs⟩) (hv : vs[2]? = some (.str file tf)) (hf : ((prog.main.file : Str) == file) = true) (lcc : K.lookup cc = some ⟨cl, cld, .cell (some (.ref D)), csl⟩) (hln : ln = 5 ∨ ln = 8)
    (kC : keepIn K (.ref C) = true) (eC : subIn K (.ref C) (.type "BaseException") = some true) (vC : subIn K (.ref C) (.type "ValueError") = some true) (yC : typeIn K (.ref C) = some (.type "type")) (hC : hasDictIn K C = true) (isC : isClsIn K C = true) (sC : subIn K (.ref C) (.ref C) = some true)
    (ny : nsIn K cStatics "thirdparty.any" = some none) (mD : mroIn K C (.ref D) = some true) (isD : isClsIn K D = true) (zs : nsIn K mainGlobals "super" = some none) (tp : (prog.main.scope.names.lookup ("super" : Str)).isSome = false) :
    ErrTxt prog K mg nm C D fI :=
  { gC := mg_of X G aC, cls := ⟨n, q, N, bs, .ref D :: veBm, sn, sub, ab, col, dd, k0, k1, k2, k3, k5, xC, rfl⟩, sa := sa, ga := ga, gg := gg, noN := nv, iC := iC, tC := tC, kC := kC, exC := eC, veC := vC, tyC := yC, hdC := hC, te := exm_of eC isC yC sC,
    sup := sup_of xC ne, any := ny, mroD := mD, clsD := by
      have z : (clsIn K D).isSome = true := isD
      exact Option.isSome_iff_exists.mp z,
    nsup := mg_none_of X G zs, top := tp,
    fn := ⟨oc, od, doc, pm, an, cda, cc, ct, osl, ln, p1, p2, q1, q2, q3, q4, ccl, cl, cdd, cld, vs, ccs, csl, file, tf, l1, c1, lc, hv, hf, lcc, hln⟩ }
end PXE
/-! PL15: tuple(x), list(x). -/
namespace PL
open PySem PySem.Spec PyProof.Rows L2
section
variable {X : Cx} {C : Fx} {W : WX} {e : Expr} {fe : Stt → Res PV} {pos : Pos}
/-- tuple(e), e a list or a tuple -/
def eTupV (fe : Stt → Res PV) : Stt → Res PV := fun s => (fe s).bind fun p s1 => match p with
  | .lst l => .ok (.tup l) s1
  | .tup l => .ok (.tup l) s1
  | _ => .stuck
end
end PL
/-! PL16: a list of the state is given away (the name is not read again). -/
namespace PL
open PySem PySem.Spec PyProof.Rows L2
section
variable {X : Cx} {C : Fx} {W : WX} {pos : Pos}
def oMv (i : Nat) : Stt → Res MO := fun s => match s.ro[i]? with
  | some (some (.own m)) => .ok m ⟨s.ro.set i none, s.mu⟩
  | _ => .stuck
theorem OkF.mv {F H : Hp} {A : Nat → List Addr} {σ : L2.St} {s : Stt} {i : Nat} {m : MO} (o : OkF C F A H σ s) (e : s.ro[i]? = some (some (SV.own m))) :
    ∃ p, σ[i]? = some (some (.ref p)) ∧ OkF C F (dropA A i) H σ ⟨s.ro.set i none, s.mu⟩ ∧ Step C F A H F (dropA A i) H ∧ Fresh C F A H F (dropA A i) H p m := by
  obtain ⟨p, h1, h2⟩ := o.own i m e
  have sub : ∀ j b, b ∈ dropA A i j → b ∈ A j := fun j b hb => by
    unfold dropA at hb
    split at hb
    · cases hb
    · exact hb
  have get : ∀ (j : Nat) (x : SV), (s.ro.set i none)[j]? = some (some x) → j ≠ i ∧ s.ro[j]? = some (some x) := fun j x h => by
    by_cases hj : j = i
    · subst hj
      rw [List.getElem?_set_self (List.getElem?_eq_some_iff.mp e).1] at h
      cases h
    · rw [List.getElem?_set_ne (Ne.symm hj)] at h
      exact ⟨hj, h⟩
  have eqA : ∀ j, j ≠ i → dropA A i j = A j := fun j hj => by unfold dropA; rw [if_neg hj]
  refine ⟨p, h1, ⟨?_, o.sub, fun j v h => o.val j v (get j _ h).2, fun j m' h => ?_, o.nb, fun j k h => o.lent j k (get j _ h).2, o.bor, fun j b hb => o.free j b (sub j b hb), fun j k b hj hk => o.dis j k b (sub j b hj) (sub k b hk), fun k b hk hb => ⟨(o.freeB k b hk hb).1, fun j hj => (o.freeB k b hk hb).2 j (sub j b hj)⟩, o.disB, o.ext⟩,
    ⟨fun _ _ h => h, fun _ h => .inl h, fun b ⟨j, hj⟩ => .inl ⟨j, sub j b hj⟩, fun b u h _ _ _ => h, fun b h => h⟩, A i, h2, fun b hb => ⟨(o.free i b hb).1, fun ⟨j, hj⟩ => ?_, fun ⟨k, hk, hkb⟩ => (o.freeB k b hk hkb).2 i hb, .inr ⟨i, hb⟩⟩⟩
  · rw [o.len]; exact (List.length_set).symm
  · obtain ⟨hj, h⟩ := get j _ h
    rw [eqA j hj]
    exact o.own j m' h
  · have := o.dis j i b (sub j b hj) hb
    subst this
    unfold dropA at hj
    rw [if_pos rfl] at hj
    cases hj
theorem do_mv (i : Nat) {x : Str} {p : Pos} (hN : X.N[i]? = some x := by rfl) (hvis : Vis X.env.scope x := by first | exact Or.inl rfl | exact Or.inr (Or.inl rfl) | exact Or.inr (Or.inr rfl)) (hd : (x == ("__debug__" : Str)) = false := by decide)
    (hcd : (x == ("__classdict__" : Str)) = false := by decide) : DO X C W (.Name x p) (oMv i) := by
  refine ⟨_, pe_var (i := i) hN hvis hd hcd, fun F A H σ s Q o pp => ?_⟩
  unfold oMv at pp
  split at pp
  · rename_i m e
    obtain ⟨q, h1, o2, st, fr⟩ := o.mv e
    exact ⟨_, h1, pp q _ _ _ o2 st fr⟩
  · exact pp.elim
end
end PL
/-! PL17: x.extend(e). -/
namespace PL
open PySem PySem.Spec PyProof.Rows L2
section
variable {X : Cx} {C : Fx} {W : WX} {e : Expr} {pos : Pos} {fe : Stt → Res PV}
def gExt (i : Nat) (fe : Stt → Res PV) : Stt → Fl := fun s => (getM s i).elim .stuck fun km => match km.2 with
  | .lst _ => (fe s).fl fun p s1 => match p, getM s1 i with
    | .lst z, some (k, .lst l) => if l.length + z.length ≤ 16777216 then .nx (setK s1 k (.lst (l ++ z))) else .stuck
    | _, _ => .stuck
  | _ => .stuck
theorem ds_ext (i : Nat) {x : Str} {p p2 p3 : Pos} (he : DV X C W e fe) (hN : X.N[i]? = some x := by rfl) (hvis : Vis X.env.scope x := by first | exact Or.inl rfl | exact Or.inr (Or.inl rfl) | exact Or.inr (Or.inr rfl)) (hd : (x == ("__debug__" : Str)) = false := by decide)
    (hcd : (x == ("__classdict__" : Str)) = false := by decide) (hs : swapsWith (.Call (.Attribute (.Name x p) "extend" p2) [e] [] p3) none pos.line X.env = pure false := by rfl)
    (hbase : attributeBase (.Name x p) "extend" X.env (eval (.Name x p) X.env) = eval (.Name x p) X.env := by rfl)
    (hfew : ((backTo p3 (starEach [e] X.env)).all (fun x => !x.1) && (backToKw p3 (keywordEach [] X.env)).all (fun x => x.1.isSome)
      && decide (([e] : List Expr).length + ([] : List Keyword).length + (if ([] : List Keyword).isEmpty then 0 else 1) < 30)) = true := by rfl)
    (hline : (p2.endLine == p3.line) = true := by rfl) (hst : starEach [e] X.env = (false, eval e X.env) :: starEach [] X.env := by rfl) (hplain : (backTo p3 (starEach [] X.env)).any (·.1) = false := by rfl) :
    DS X C W (.Expr (.Call (.Attribute (.Name x p) "extend" p2) [e] [] p3) pos) (gExt i fe) := by
  obtain ⟨te, pe, qe⟩ := he.pr
  refine ⟨_, ps_expr (pe_bm PySem.F.plainAttrs_list PySem.F.slot_list_extend PySem.F.type_list_extend mt_extend (pe_var (i := i) hN hvis hd hcd) (pa_cons pe pa_nil hst) hbase hfew hline hst hplain) hs, fun F A H σ s D o pp => ?_⟩
  cases e0 : getM s i with
  | none => unfold gExt at pp; rw [e0] at pp; exact pp.elim
  | some km =>
    obtain ⟨k0, m0⟩ := km
    unfold gExt at pp
    rw [e0] at pp
    simp only [Option.elim_some] at pp
    cases m0 with
    | lst l0 =>
      simp only at pp
      obtain ⟨_, g0, ⟨_, xs0, hx0, _⟩⟩ := mut_at o e0
      refine ⟨_, g0, .inl ⟨rfl, _, SqL.of hx0⟩, ?_⟩
      refine qe F A H σ s _ o (PostS.seq pp fun pv s1 xv F1 A1 H1 _ o1 st1 r1 p1 => ?_)
      cases r1 with
      | @lst a ys z h2 h3 =>
        cases e1 : getM s1 i with
        | none => simp only [e1] at p1; exact p1.elim
        | some km2 =>
          obtain ⟨k, m⟩ := km2
          simp only [e1] at p1
          cases m with
          | lst l =>
            simp only at p1
            split at p1
            · rename_i hl
              obtain ⟨g1, g2, g3⟩ := mut_at o1 e1
              obtain ⟨_, xs, hx, hr⟩ := g3
              rw [g0] at g2
              have ea : adr σ C k0 = adr σ C k := V.ref.inj (Option.some.inj (Option.some.inj g2))
              refine ⟨_, a, xs, ys, rfl, rfl, by rw [ea]; exact hx, o1.sub _ _ h2, by rw [hr.length, h3.length]; exact line_le hl, ?_⟩
              rw [ea]
              obtain ⟨o3, st3⟩ := o1.updL g1 (Rps.append hr h3)
              exact p1 _ _ _ _ o3 st3
            · exact p1.elim
          | _ => exact p1.elim
      | _ => exact p1.elim
    | _ => exact pp.elim
end
end PL
/-! PL18: isinstance(e, T), T a built-in type, e a plain value. -/
namespace PL
open PySem PySem.Spec PyProof.Rows L2
end PL
/-! PL19: {"a": e, ..}[k]: a dict display with written texts for keys, read at once. -/
namespace PL
open PySem PySem.Spec PyProof.Rows L2
section
variable {X : Cx} {C : Fx} {W : WX} {e : Expr} {pos : Pos} {fe fk : Stt → Res PV} {fa : Stt → Res (List PV)}
def kvOf (ks : List Str) (vs : List V) : List (Key × V) := (ks.zip vs).map fun kv => (Sum.inr kv.1, kv.2)
def RKV (C : Fx) (ks : List Str) : Hp → Hp → List (V × V) → List PV → Prop := fun F _ ps l => ∃ vs, ps = (kvOf ks vs).map (fun kv => (kV kv.1, kv.2)) ∧ Rps C F vs l ∧ vs.length = ks.length
structure DPr (X : Cx) (C : Fx) (W : WX) (pos : Pos) (keys : List (Option Expr)) (values : List Expr) (ks : List Str) (fa : Stt → Res (List PV)) : Prop where
  pr : ∃ trs, PPs X pos keys values trs ∧ ∀ F A H σ s Q, OkF C F A H σ s → Post C W (RKV C ks) F A H σ (fa s) Q → tPairs trs σ H Q
theorem dpr_nil : DPr X C W pos [] [] [] aNil := ⟨_, pps_nil, fun F A H σ s Q o p => Post.now o p ⟨[], rfl, .nil, rfl⟩⟩
theorem dpr_cons {k : Str} {ke : Expr} {keys : List (Option Expr)} {values : List Expr} {ks : List Str} (hk : PE X ke (tC (.str k))) (he : DV X C W e fe) (hr : DPr X C W pos keys values ks fa) : DPr X C W pos (some ke :: keys) (e :: values) (k :: ks) (aCons fe fa) := by
  obtain ⟨te, pe, qe⟩ := he.pr
  obtain ⟨tr, pr, qr⟩ := hr.pr
  refine ⟨_, pps_cons hk pe pr, fun F A H σ s Q o p => ?_⟩
  refine qe F A H σ s _ o (p.seq fun q1 s1 v1 F1 A1 H1 _ o1 st1 r1 p1 => ?_)
  refine qr F1 A1 H1 σ s1 _ o1 (p1.seq fun q2 s2 ps F2 A2 H2 _ o2 st2 r2 p2 => ?_)
  obtain ⟨vs, e1, e2, e3⟩ := r2
  exact Post.now o2 p2 ⟨v1 :: vs, by rw [e1]; rfl, .cons (r1.mono st2.s1) e2, by rw [List.length_cons, List.length_cons, e3]⟩
theorem merge_new : ∀ (more acc : List (Key × V)), (acc.map (·.1) ++ more.map (·.1)).Nodup → mergeK acc more = acc ++ more
  | [], acc, _ => by simp [mergeK]
  | kv :: r, acc, h => by
    have h1 : putK acc kv.1 kv.2 = acc ++ [kv] := by
      unfold putK
      rw [if_neg]
      simp only [List.any_eq_true, decide_eq_true_eq, not_exists, not_and]
      intro z hz e
      rw [List.map_cons, List.nodup_append] at h
      exact h.2.2 z.1 (List.mem_map_of_mem hz) kv.1 List.mem_cons_self e
    show mergeK (putK acc kv.1 kv.2) r = _
    rw [h1, merge_new r (acc ++ [kv]) (by simpa using h)]
    simp
/-- an object that the state does not know is written anew -/
theorem OkF.updX {F H : Hp} {A : Nat → List Addr} {σ : L2.St} {s : Stt} {p : Addr} {u : HO} (o : OkF C F A H σ s) (hF : F p = none) (hA : ¬ OwnA A p) (hB : ¬ Bor C p) (hp : H p ≠ none) (hx : ∀ x, H p = some x → ¬ Tbx x) : OkF C F A (L2.upd H p u) σ s := by
  have keep : ∀ b x, b ≠ p → H b = some x → L2.upd H p u b = some x := fun b x hb e => by rw [L2.upd_ne hb]; exact e
  refine ⟨o.len, fun b x e => ?_, o.val, fun i m e => ?_, o.nb, o.lent, fun q m e => ?_, fun i b hb => ?_, o.dis, o.freeB, o.disB, ⟨o.ext.1, o.ext.2.off0 fun b x t e => keep b x (fun z => hx x (z ▸ e) t) e⟩⟩
  · exact keep b x (fun z => by rw [z, hF] at e; cases e) (o.sub b x e)
  · obtain ⟨q, h1, h2⟩ := o.own i m e
    exact ⟨q, h1, h2.keep (fun _ _ h => h) fun b x hb hx => keep b x (fun z => hA ⟨i, z ▸ hb⟩) hx⟩
  · refine (o.bor q m e).keep (fun _ _ h => h) fun b x hb hx => keep b x (fun z => hB ⟨q, ?_, z ▸ hb⟩) hx
    rw [← o.nb]
    exact (List.getElem?_eq_some_iff.mp e).1
  · obtain ⟨h1, h2⟩ := o.free i b hb
    have hne : b ≠ p := fun z => hA ⟨i, z ▸ hb⟩
    exact ⟨h1, by rw [L2.upd_ne hne]; exact h2⟩
end
end PL
/-! PL20: the module's own numbers and texts. -/
namespace PL
open PySem PySem.Spec PyProof.Rows L2
end PL
/-! PL21: e.f, e an instance of an own class (a plain value). -/
namespace PL
open PySem PySem.Spec PyProof.Rows L2
section
variable {X : Cx} {C : Fx} {W : WX} {e : Expr} {pos : Pos} {fe : Stt → Res PV}
def eFld (c f : Str) (fe : Stt → Res PV) : Stt → Res PV := fun s => (fe s).bind fun p s1 => match p with
  | .ins c' fs => if c' = c then Res.opt s1 (fs.lookup f) else .stuck
  | _ => .stuck
end
end PL
/-! PL22: self.f = v, self.f, self an instance of the state. -/
namespace PL
open PySem PySem.Spec PyProof.Rows L2
section
variable {X : Cx} {C : Fx} {W : WX} {e : Expr} {pos : Pos} {fe : Stt → Res PV}
def putP (f : Str) (p : PV) : List (Str × PV) → List (Str × PV)
  | [] => [(f, p)]
  | (n, q) :: r => if n = f then (n, p) :: r else (n, q) :: putP f p r
theorem Rpf.put {F : Hp} {f : Str} {v : V} {p : PV} (r : Rp C F v p) : ∀ {fs : List (Str × V)} {l : List (Str × PV)}, Rpf C F fs l → Rpf C F (putF f v fs) (putP f p l)
  | _, _, .nil => .cons r .nil
  | (n, u) :: fs, (_, q) :: l, .cons h t => by
    unfold putF putP
    by_cases e : n = f
    · rw [if_pos e]
      rw [if_pos e]
      exact .cons r t
    · rw [if_neg e]
      rw [if_neg e]
      exact .cons h (Rpf.put r t)
theorem Rpf.len {F : Hp} : ∀ {fs : List (Str × V)} {l : List (Str × PV)}, Rpf C F fs l → fs.length = l.length
  | _, _, .nil => rfl
  | _, _, .cons _ t => by rw [List.length_cons, List.length_cons, Rpf.len t]
def gSetFld (i : Nat) (c f : Str) (fe : Stt → Res PV) : Stt → Fl := fun s => (fe s).fl fun p s1 => match getM s1 i with
  | some (k, .ins c' l) => if c' = c ∧ l.length < 1000 then .nx (setK s1 k (.ins c (putP f p l))) else .stuck
  | _ => .stuck
/-- self.f, self an instance of the state -/
def eFldM (i : Nat) (c f : Str) : Stt → Res PV := fun s => match getM s i with
  | some (_, .ins c' l) => if c' = c then Res.opt s (l.lookup f) else .stuck
  | _ => .stuck
end
end PL
/-! PL23: an instance is made: K(e, ..). -/
namespace PL
open PySem PySem.Spec PyProof.Rows L2
/-- where classes lie, and the tables of lambdas (T) -/
def clT (T : List (Str × Addr)) (c0 : Str → Addr) (x : Str) : Addr := if x ∈ tabNames.map tabKey then (T.lookup x).getD 0 else c0 x
theorem clT_at {T : List (Str × Addr)} {K : PySem.W.Frag} {nm : Str} {C : Addr} (h : PySem.W.nsIn K mainGlobals nm = some (some (.ref C))) (hn : decide (nm ∈ tabNames.map tabKey) = false := by decide +kernel) : clT T (PXE.clOf K) nm = C := by
  unfold clT
  rw [if_neg (of_decide_eq_false hn)]
  exact PXE.clOf_at h
theorem clT_tab {T : List (Str × Addr)} {c0 : Str → Addr} {q : Str} (h : q ∈ tabNames) : clT T c0 (tabKey q) = (T.lookup (tabKey q)).getD 0 := by
  unfold clT
  rw [if_pos (List.mem_map_of_mem h)]
theorem tabOk_0 {F H : Hp} : TabOk (fun _ => 0) F H := fun _ _ h => absurd rfl h
theorem tabOk_nil {c0 : Str → Addr} {F H : Hp} : TabOk (clT [] c0) F H := fun q hq h => absurd (clT_tab hq) h
/-- a law's promise where its error classes lie as the written part says -/
abbrev spX (K : PySem.W.Frag) (m : List SV → List MO → FRes) : Sp := spOf K (clT [] (PXE.clOf K)) 1 m
end PL
/-! PL24: len(set(xs)), xs a list of ints; divmod. -/
namespace PL
open PySem PySem.Spec PyProof.Rows L2
/-- each number once, in the order in which it comes first -/
def onceI : List Int → List Int := fun ns => ns.foldl PyProof.Rows.step_dedup []
section
variable {X : Cx} {C : Fx} {W : WX} {e : Expr} {pos : Pos} {fe : Stt → Res PV}
def pLenSet : PV → Option PV
  | .lst l => match allInt l with
    | some ns => if ns.length ≤ 4000 then some (.int ((onceI ns).length : Nat)) else none
    | none => none
  | _ => none
def eLenSet (fe : Stt → Res PV) : Stt → Res PV := fun s => (fe s).bind fun p s1 => Res.opt s1 (pLenSet p)
end
end PL
/-! PL25: def f( *v ): what is passed is one tuple. -/
namespace PL
open PySem PySem.Spec PyProof.Rows L2
theorem PostF.after {C : Fx} {F F1 H H1 : Hp} {Q : VK} {E : XK} {r : FRes} (st : Step C F noA H F1 noA H1) (p : PostF C F H Q E r) : PostF C F1 H1 Q E r := by
  cases r with
  | ok v mu => exact fun u F' H' o t rr => p u F' H' o (st.trans t) rr
  | own m mu => exact fun q F' H' o t f => p q F' H' o (st.trans t) (f.after st)
  | ex c v mu => exact fun d F' H' o t x => p d F' H' o (st.trans t) x
  | stuck => exact p
section
variable {X : Cx} {Cn : CXT} {C : Fx} {W : WX} {k : Nat} {f : Addr} {sp : Sp} {E : L2.St → XK} {x : Str} {p pos : Pos} {e : Expr} {es : List Expr} {t : TA} {m : List SV → List MO → FRes} {fa : Stt → Res (List PV)}
def eCallQ (m : List SV → List MO → FRes) (fa : Stt → Res (List PV)) : Stt → Res PV := fun s => (fa s).bind fun l s1 => if l.length ≤ 16777216 then match m [.val (.tup l)] [] with
  | .ok v _ => .ok v s1
  | .own (.lst l) _ => .ok (.lst l) s1
  | .own _ _ => .stuck
  | .ex c v _ => .ex c v s1
  | .stuck => .stuck
  else .stuck
end
end PL
/-! PL26: a list of the state is a plain value from now on. -/
namespace PL
open PySem PySem.Spec PyProof.Rows L2
section
variable {X : Cx} {C : Fx} {W : WX} {sts : List Stmt} {g : Stt → Fl}
def gFrz (i : Nat) : Stt → Fl := fun s => match s.ro[i]? with
  | some (some (.own (.lst l))) => .nx (setV i (.lst l) s)
  | _ => .stuck
theorem set_get {α : Type} {l : List α} {i : Nat} {x : α} (h : l[i]? = some x) : l.set i x = l := by
  obtain ⟨h1, h2⟩ := List.getElem?_eq_some_iff.mp h
  subst h2
  exact List.set_getElem_self h1
theorem OkF.frz {F H : Hp} {A : Nat → List Addr} {σ : L2.St} {s : Stt} {i : Nat} {l : List PV} (o : OkF C F A H σ s) (e : s.ro[i]? = some (some (SV.own (.lst l)))) :
    ∃ F' A', OkF C F' A' H σ (PL.setV i (PV.lst l) s) ∧ Step C F A H F' A' H := by
  obtain ⟨p, h1, o2, st2, fr⟩ := o.mv e
  obtain ⟨F2, o3, st3, r3⟩ := o2.freeze st2 fr
  obtain ⟨o4, st4⟩ := o3.setV (i := i) r3
  rw [set_get h1] at o4
  have es : PL.setV i (PV.lst l) ⟨s.ro.set i none, s.mu⟩ = PL.setV i (PV.lst l) s := by
    unfold PL.setV
    simp only [List.set_set]
  rw [es] at o4
  exact ⟨F2, _, o4, st3.trans st4⟩
end
end PL
/-! PL27: ranges between numbers of any size. -/
namespace PL
open PySem PySem.Spec PyProof.Rows L2
theorem turn_long {P : Program} {w : World} {K : PySem.W.Frag} {tg : Expr} (it : Addr) (lo : Int) (n : Nat) : Turn P w K tg (Itr lo n) [it] it (fun i h => IsLongIter h it (lo + (i : Nat) * 1) ((n : Int) - (i : Nat)) 1) where
  mem := by simp
  obj := fun i h st b hb => by
    have e : b = it := by simpa using hb
    subst e
    exact ⟨_, st, fun v z => by
      have z' : Data.fields _ = Data.cell v := z
      cases z'⟩
  keep := fun i h h' st k => k it (by simp) _ st
  item := by
    intro X hP hw hK hc i pins s σ H E I hf st hg
    subst hP hw hK
    obtain ⟨f0, f1, f2, f3, f4, f5⟩ := hf it (by simp)
    have W := Walks.longrange (prog := X.prog) (w := X.w) (I.ok.hd hc) it lo 1 n
    refine W.item i s _ _ hg st fun v h' tk hv st' kk => ?_
    obtain ⟨t, rfl⟩ := hv
    have I1 : Inv X pins σ H { s with heap := h', toks := tk } := I.turned (fun b o hb e => kk b o (by simpa using hb) e) f0 f1 f3 f4 f5
    refine ⟨_, rfl, go_of (s := { s with heap := h', toks := tk }) (n := "longrange_iterator") st' rfl rfl (by decide) ⟨.int (lo + i), H, I1, ⟨t, ?_⟩, ⟨rfl, rfl⟩, st', fun b hb => (hf b hb).1⟩⟩
    rw [Int.mul_one]
  done := by
    intro X hP hw hK hc i pins s σ H E I hf st hg
    subst hP hw hK
    obtain ⟨f0, f1, f2, f3, f4, f5⟩ := hf it (by simp)
    exact wpAny_pyNext_long_end (I.ok.hd hc) st (by have : n ≤ i := hg; omega) fun h' eb => ⟨rfl, I.turned (t' := s.toks) (fun b o hb e => eb b o hb e) f0 f1 f3 f4 f5⟩
  self := fun _ _ _ _ _ st h => wpAny_pyIter_longiter st h
section
variable {X : Cx} {tg : Expr}
theorem range_itW {pins : List (Addr × Obj)} {σ : L2.St} {H : Hp} {s : Shared} {R : It → Hp → Prop} {E : Value → Shared → Prop} {lo hi : Int} {t u v : Tok} {tk : Nat} (I : Inv X pins σ H s)
    (q : R (Itr lo (hi - lo).toNat) H) : wpAny (model X.prog X.w) X.A (pyIter (.ref s.heap.objs.size)) (PIE X pins σ tg R) E { s with heap := s.heap.push { cls := .type "range", data := .fields #[.int lo t, .int hi u, .int 1 v] }, toks := tk } := by
  have I1 : Inv X pins σ H { s with heap := s.heap.push { cls := .type "range", data := .fields #[.int lo t, .int hi u, .int 1 v] }, toks := tk } := I.kept fun b o e => Heap.get?_push_of_some _ e
  have e1 : lo + ((0 : Nat) : Int) * 1 = lo := by simp
  have e2 : (((hi - lo).toNat : Nat) : Int) - ((0 : Nat) : Int) = Builtin.Range.rangeSize lo hi 1 := by rw [rangeSize_one]; split <;> omega
  by_cases hs : Builtin.Range.small lo hi 1 = true
  · refine wpAny_pyIter_range (IsRange.new ..) hs ?_
    refine ⟨(s.heap.push { cls := .type "range", data := .fields #[.int lo t, .int hi u, .int 1 v] }).objs.size, [(s.heap.push { cls := .type "range", data := .fields #[.int lo t, .int hi u, .int 1 v] }).objs.size], _, _, H, rfl,
      I1.kept (t' := tk) fun b o e => Heap.get?_push_of_some _ e, turn_range _ lo (hi - lo).toNat, ?_, fun b hb => ?_, q⟩
    · show IsRangeIter _ _ (lo + ((0 : Nat) : Int) * 1) ((((hi - lo).toNat : Nat) : Int) - ((0 : Nat) : Int)) 1
      rw [e1, e2]
      exact Heap.get?_push_size _ rfl
    · have e : b = (s.heap.push { cls := .type "range", data := .fields #[.int lo t, .int hi u, .int 1 v] }).objs.size := by simpa using hb
      subst e
      exact I1.fpOk (Nat.le_refl _) (I1.hok.fresh (Nat.le_refl _))
  · refine wpAny_pyIter_longrange (IsRange.new ..) (by simpa using hs) ?_
    refine ⟨(s.heap.push { cls := .type "range", data := .fields #[.int lo t, .int hi u, .int 1 v] }).objs.size, [(s.heap.push { cls := .type "range", data := .fields #[.int lo t, .int hi u, .int 1 v] }).objs.size], _, _, H, rfl,
      I1.kept (t' := tk) fun b o e => Heap.get?_push_of_some _ e, turn_long _ lo (hi - lo).toNat, ?_, fun b hb => ?_, q⟩
    · show IsLongIter _ _ (lo + ((0 : Nat) : Int) * 1) ((((hi - lo).toNat : Nat) : Int) - ((0 : Nat) : Int)) 1
      rw [e1, e2]
      exact Heap.get?_push_size _ rfl
    · have e : b = (s.heap.push { cls := .type "range", data := .fields #[.int lo t, .int hi u, .int 1 v] }).objs.size := by simpa using hb
      subst e
      exact I1.fpOk (Nat.le_refl _) (I1.hok.fresh (Nat.le_refl _))
def iRngW1 (ta : TA) : TI := fun σ H R => ta σ H fun vs H1 => ∃ j : Int, vs = [.int j] ∧ R (Itr 0 j.toNat) H1
theorem pi_rangeW1 {a : Expr} {ta : TA} {p pos : Pos} (hg : Gl X "range") (hm : X.mg "range" = none) (ha : PA X [a] ta) (hs : starEach [a] X.env = [(false, eval a X.env)] := by rfl) : PI X tg (.Call (.Name "range" p) [a] [] pos) (iRngW1 ta) := by
  refine ⟨fun pins s σ H R I h => ?_⟩
  refine Call_ (ld_blt I hg hm boot_range (PyProof.Rows.callWith_type1 (thn (ha.run pos pins s σ H _ I h) fun us s1 ⟨vs, H1, I1, r1, q1⟩ => ?_) hs rfl))
  obtain ⟨j, e, q⟩ := q1
  subst e
  cases r1 with
  | cons r rr =>
    cases rr
    obtain ⟨t, rfl⟩ := r
    exact call_range_1 (range_itW (lo := 0) (hi := j) (R := R) I1 (by simpa using q))
end
section
variable {X : Cx} {C : Fx} {W : WX} {tg : Expr} {pos : Pos} {fa : Stt → Res (List PV)}
def iRangeW1 (fa : Stt → Res (List PV)) : Stt → Res (List PV) := fun s => (fa s).bind fun p s1 => match p with
  | [.int j] => .ok (rng 0 j.toNat) s1
  | _ => .stuck
def iRangeW2 (fa : Stt → Res (List PV)) : Stt → Res (List PV) := fun s => (fa s).bind fun p s1 => match p with
  | [.int i, .int j] => .ok (rng i (j - i).toNat) s1
  | _ => .stuck
theorem di_rangeW1 {a : Expr} {p : Pos} (hg : Gl X "range") (hm : X.mg "range" = none) (ha : DA X C W [a] fa) (hs : starEach [a] X.env = [(false, eval a X.env)] := by rfl) : DI X C W tg (.Call (.Name "range" p) [a] [] pos) (iRangeW1 fa) := by
  obtain ⟨te, pe, qe⟩ := ha.pr
  refine ⟨_, pi_rangeW1 hg hm pe hs, fun F A H σ s Q o p => ?_⟩
  refine qe F A H σ s _ o (p.seq fun a s1 v F1 A1 H1 _ o1 st1 r1 p1 => ?_)
  cases r1 with
  | nil => exact p1.elim
  | cons r r' =>
    cases r' with
    | cons _ _ => cases r <;> exact p1.elim
    | nil =>
      cases r with
      | int j =>
        simp only at p1
        refine ⟨j, rfl, Post.now o1 p1 ?_⟩
        refine ⟨_, _, ?_, fun _ _ => trivial, rng_ok 0 j.toNat⟩
        rw [rng_length]
        exact walk_range
      | _ => exact p1.elim
end
end PL
/-! PL28: tables of the module: D[k], D.get(k), k a key of D. -/
namespace PL
open PySem PySem.Spec PyProof.Rows L2
section
variable {X : Cx} {C : Fx} {W : WX} {e : Expr} {pos : Pos} {fe : Stt → Res PV}
def eDct (tbl : List (Str × PV)) (fe : Stt → Res PV) : Stt → Res PV := fun s => (fe s).bind fun p s1 => match p with
  | .str k => Res.opt s1 (tbl.lookup k)
  | _ => .stuck
end
end PL
/-! PL29: texts walked sign by sign; a sign in a text. -/
namespace PL
open PySem PySem.Spec PyProof.Rows L2
section
variable {X : Cx} {C : Fx} {W : WX} {e tg : Expr} {fe : Stt → Res PV}
def signs (z : Str) : List PV := z.cps.toList.map fun c => PV.str ⟨#[c]⟩
def iTxt (fe : Stt → Res PV) : Stt → Res (List PV) := fun s => (fe s).bind fun p s1 => match p with
  | .str z => .ok (signs z) s1
  | _ => .stuck
end
end PL
/-! PL30: K(e, ..): an instance made, a plain value from then on. -/
namespace PL
open PySem PySem.Spec PyProof.Rows L2
section
variable {X : Cx} {C : Fx} {W : WX} {k n : Nat} {f : Addr} {fd : FuncData} {ps : List Str} {dvs : List V} {ds : List Value} {dps : List PV} {x c : Str} {p pos : Pos} {e : Expr} {es : List Expr} {m : List SV → List MO → FRes} {fa : Stt → Res (List PV)}
def eMake (c : Str) (m : List SV → List MO → FRes) (n : Nat) (dps : List PV) (fa : Stt → Res (List PV)) : Stt → Res PV := fun s => (fa s).bind fun l s1 => if l.length + dps.length + 1 = n then match m (.bor 0 :: (l ++ dps).map .val) [.ins c []] with
  | .ok .non [.ins c' fs] => if c' = c then .ok (.ins c fs) s1 else .stuck
  | .ex c v _ => .ex c v s1
  | _ => .stuck
  else .stuck
end
end PL
/-! PL31: defs of classes, defs with defaults; tables from their facts. -/
namespace PL
open PySem PySem.Spec PyProof.Rows L2
/-! ### tables from their facts -/
end PL
/-! PL32: list(range(a, b)), numbers of any size. -/
namespace PL
open PySem PySem.Spec PyProof.Rows L2
section
variable {X : Cx} {C : Fx} {W : WX} {a b : Expr} {pos : Pos} {fe fb : Stt → Res PV} {e : Expr} {te : L2.St → Hp → (Int → Int → Hp → Prop) → Prop}
def oRgW (i j : Int) (s : Stt) : Res MO := if j - i ≤ 16777216 then .ok (.lst (rng i (j - i).toNat)) s else .stuck
def oRgW2 (fa fb : Stt → Res PV) : Stt → Res MO := fun s => (fa s).bind fun p s1 => (fb s1).bind fun q s2 => match p, q with
  | .int i, .int j => oRgW i j s2
  | _, _ => .stuck
end
end PL
/-! PL33: enumerate(e), e a list or a tuple. -/
namespace PL
open PySem PySem.Spec PyProof.Rows L2
section
variable {X : Cx} {C : Fx} {W : WX} {e : Expr} {pos : Pos} {fa : Stt → Res (List PV)}
def iEnumQ (fa : Stt → Res (List PV)) : Stt → Res (List PV) := fun s => (fa s).bind fun p s1 => match p with
  | [.lst l] => .ok (enumP l) s1
  | [.tup l] => .ok (enumP l) s1
  | [.scr l] => .ok (enumP l) s1
  | _ => .stuck
end
end PL
/-! PL34: a list of lists that grow. -/
namespace PL
open PySem PySem.Spec PyProof.Rows L2
section
variable {C : Fx} {F H : Hp}
theorem Lls.len : ∀ {as : List Addr} {ls : List (List PV)}, Lls C F H as ls → as.length = ls.length
  | [], [], _ => rfl
  | a :: as, l :: ls, ⟨_, h⟩ => by rw [List.length_cons, List.length_cons, Lls.len h]
  | [], _ :: _, h => h.elim
  | _ :: _, [], h => h.elim
theorem Lls.get : ∀ {as : List Addr} {ls : List (List PV)} {i : Nat} {l : List PV}, Lls C F H as ls → ls[i]? = some l → ∃ a xs, as[i]? = some a ∧ H a = some (.lst xs) ∧ Rps C F xs l
  | [], [], _, _, _, e => by simp at e
  | a :: as, l :: ls, 0, _, ⟨⟨xs, h1, h2⟩, _⟩, e => by simp at e; subst e; exact ⟨a, xs, rfl, h1, h2⟩
  | a :: as, l :: ls, i + 1, _, ⟨_, h⟩, e => by
    obtain ⟨b, xs, h1, h2⟩ := Lls.get (i := i) h (by simpa using e)
    exact ⟨b, xs, by simpa using h1, h2⟩
  | [], _ :: _, _, _, h, _ => h.elim
  | _ :: _, [], _, _, h, _ => h.elim
theorem Lls.set {a : Addr} {ys : List V} {l2 : List PV} (r : Rps C F ys l2) : ∀ {as : List Addr} {ls : List (List PV)} {i : Nat}, as.Nodup → Lls C F H as ls → as[i]? = some a → Lls C F (upd H a (.lst ys)) as (ls.set i l2)
  | [], [], _, _, _, e => by simp at e
  | b :: as, l :: ls, 0, nd, ⟨⟨xs, h1, h2⟩, h⟩, e => by
    simp at e; subst e
    refine ⟨⟨ys, upd_same, r⟩, h.keep (fun _ _ z => z) fun c o hc ho => ?_⟩
    rw [upd_ne (show c ≠ b from fun z => (List.nodup_cons.mp nd).1 (z ▸ hc))]; exact ho
  | b :: as, l :: ls, i + 1, nd, ⟨⟨xs, h1, h2⟩, h⟩, e => by
    have e : as[i]? = some a := by simpa using e
    have hne : b ≠ a := fun z => (List.nodup_cons.mp nd).1 (by rw [z]; exact List.mem_of_getElem? e)
    exact ⟨⟨xs, by rw [upd_ne hne]; exact h1, h2⟩, Lls.set r (List.nodup_cons.mp nd).2 h e⟩
  | [], _ :: _, _, _, h, _ => h.elim
  | _ :: _, [], _, _, h, _ => h.elim
end
/-! ### a list of lists is a plain value from now on -/
theorem Lls.plain {C : Fx} {F F2 H : Hp} (e : Same F F2) : ∀ {as : List Addr} {ls : List (List PV)}, Lls C F H as ls → (∀ b, b ∈ as → F2 b = H b) → Rps C F2 (as.map V.ref) (ls.map PV.lst)
  | [], [], _, _ => .nil
  | a :: as, l :: ls, ⟨⟨xs, h1, h2⟩, h⟩, k => .cons (.lst (by rw [k a List.mem_cons_self]; exact h1) (h2.mono e)) (Lls.plain e h fun b hb => k b (List.mem_cons_of_mem _ hb))
  | [], _ :: _, h, _ => h.elim
  | _ :: _, [], h, _ => h.elim
/-! ### x[b].append(y), y a name -/
/-! ### [[] for ..] -/
end PL
/-! PL35: starred displays, the length of an own list, methods called. -/
namespace PL
open PySem PySem.Spec PyProof.Rows L2
/-! ### methods -/
theorem Rpf.none {C : Fx} {F : Hp} {n : Str} : ∀ {fs : List (Str × V)} {l : List (Str × PV)}, Rpf C F fs l → l.lookup n = none → fs.lookup n = none
  | _, _, .nil, _ => rfl
  | _, _, .cons (n := k) h r, e => by
    rw [List.lookup_cons] at e ⊢
    cases z : (n == k) with
    | true => rw [z] at e; cases e
    | false => rw [z] at e; exact Rpf.none r e
end PL
/-! PL36: a list grows by a tuple's items. -/
namespace PL
open PySem PySem.Spec PyProof.Rows L2
end PL
/-! PL37: properties read, len(x) and x == y, x != y by own methods. -/
namespace PL
open PySem PySem.Spec PyProof.Rows L2
end PL
/-! PL38: isinstance(e, K) of an instance of K; a class with its own __eq__, from its facts. -/
namespace PL
open PySem PySem.Spec PyProof.Rows L2
end PL
/-! PL39: x + y by an own __add__; methods with arguments. -/
namespace PL
open PySem PySem.Spec PyProof.Rows L2
end PL
/-! PL40: sorted(e), e an ascending list of whole numbers. -/
namespace PL
open PySem PySem.Spec PyProof.Rows L2
end PL
/-! PL41: x, y = value, fresh list, where a name is no plain local. -/
namespace PL
open PySem PySem.Spec PyProof.Rows L2
end PL
/-! PL42: a comprehension with two fors. -/
namespace PL
open PySem PySem.Spec PyProof.Rows L2
section
variable {X : Cx} {C : Fx} {W : WX} {elt tg iter tg1 iter1 : Expr} {ifs ifs1 : List Expr} {scope : Scope} {own : List (Str × Nat)} {vs1 : List Nat} {pos : Pos} {fi fi1 : Stt → Res (List PV)} {a a1 : PV → Stt → Option Stt} {ft ft1 : Stt → Res Bool} {fe : Stt → Res PV}
def cTI (C : Fx) (W : WX) (f : Stt → Res (List PV)) : TI := fun σ H Q => ∃ F A s, OkF C F A H σ s ∧ Post C W (RI C) F A H σ (f s) Q
theorem DI.c {tg iter : Expr} (h : DI X C W tg iter fi) : PI X tg iter (cTI C W fi) := by
  obtain ⟨t, p, q⟩ := h.pr
  exact ⟨fun pins s σ H R I ⟨F, A, s1, o, pp⟩ => p.run pins s σ H R I (q F A H σ s1 R o pp)⟩
end
end PL
/-! PL43: calls f( *t ) and f( *t, v, .. ) of defs with plain values. -/
namespace PL
open PySem PySem.Spec PyProof.Rows L2
end PL
/-! PL44: x in t, x not in t for a tuple t of data. -/
namespace PL
open PySem PySem.Spec PyProof.Rows L2
end PL
/-! PL45: defs whose last parameter has a default: all written, the last one left out, keywords. -/
namespace PL
open PySem PySem.Spec PyProof.Rows L2
end PL
/-! PL46: min(e) of a list of tuples of ints. -/
namespace PL
open PySem PySem.Spec PyProof.Rows L2
end PL
/-! PL47: sorted(e), e an ascending list of pairs of whole numbers. -/
namespace PL
open PySem PySem.Spec PyProof.Rows L2
end PL
/-! PL48: int of a text. -/
namespace PL
open PySem PySem.Spec PyProof.Rows L2
end PL
namespace PL
open PySem PySem.Spec PyProof.Rows L2
end PL
/-! PL49: a def that calls itself: the mirror with no fuel left is stuck. -/
namespace PL
open PySem PySem.Spec PyProof.Rows L2
end PL
/-! PL51: sorted(e), e any list of whole numbers. -/
namespace PL
open PySem PySem.Spec PyProof.Rows L2
end PL
/-! PLB: the bag: a dict of three numbers and a list of numbers, under written keys. -/
namespace PL
open PySem PySem.Spec PyProof.Rows L2
abbrev bagD (q : Addr) (l t b : Int) : List (Key × V) := [(.inr "great", .ref q), (.inr "left", .int l), (.inr "turn", .int t), (.inr "blend", .int b)]
def bagK (k : Str) (l t b : Int) : Option Int := if k = "left" then some l else if k = "turn" then some t else if k = "blend" then some b else none
def bagS (k : Str) (n : Int) (g : List Int) (l t b : Int) : Option MO := if k = "left" then some (.bag g n t b) else if k = "turn" then some (.bag g l n b) else none
theorem bag_get {q : Addr} {k : Str} {l t b n : Int} (h : bagK k l t b = some n) : valV (bagD q l t b) (.inr k) = some (.int n) := by
  unfold bagK at h
  unfold valV bagD
  have n1 : ¬ ("great" : Str) = "left" := by decide +kernel
  have n2 : ¬ ("great" : Str) = "turn" := by decide +kernel
  have n3 : ¬ ("great" : Str) = "blend" := by decide +kernel
  have n4 : ¬ ("left" : Str) = "turn" := by decide +kernel
  have n5 : ¬ ("left" : Str) = "blend" := by decide +kernel
  have n6 : ¬ ("turn" : Str) = "blend" := by decide +kernel
  by_cases c1 : k = "left"
  · rw [if_pos c1] at h
    subst c1
    simp [n1, Option.some.inj h]
  · rw [if_neg c1] at h
    by_cases c2 : k = "turn"
    · rw [if_pos c2] at h
      subst c2
      simp [n2, n4, Option.some.inj h]
    · rw [if_neg c2] at h
      by_cases c3 : k = "blend"
      · rw [if_pos c3] at h
        subst c3
        simp [n3, n5, n6, Option.some.inj h]
      · rw [if_neg c3] at h
        cases h
theorem bag_great {q : Addr} {l t b : Int} : valV (bagD q l t b) (.inr "great") = some (.ref q) := by
  unfold valV bagD
  simp
theorem bag_put {q : Addr} {k : Str} {g : List Int} {l t b n : Int} {m : MO} (h : bagS k n g l t b = some m) : ∃ l2 t2, m = .bag g l2 t2 b ∧ putK (bagD q l t b) (.inr k) (.int n) = bagD q l2 t2 b := by
  unfold bagS at h
  have n1 : ¬ ("great" : Str) = "left" := by decide +kernel
  have n2 : ¬ ("great" : Str) = "turn" := by decide +kernel
  have n4 : ¬ ("left" : Str) = "turn" := by decide +kernel
  have n5 : ¬ ("blend" : Str) = "left" := by decide +kernel
  have n6 : ¬ ("blend" : Str) = "turn" := by decide +kernel
  have n7 : ¬ ("turn" : Str) = "left" := by decide +kernel
  by_cases c1 : k = "left"
  · rw [if_pos c1] at h
    subst c1
    cases h
    exact ⟨n, t, rfl, by simp [putK, bagD, n1, n5, n7]⟩
  · rw [if_neg c1] at h
    by_cases c2 : k = "turn"
    · rw [if_pos c2] at h
      subst c2
      cases h
      exact ⟨l, n, rfl, by simp [putK, bagD, n2, n4, n6]⟩
    · rw [if_neg c2] at h
      cases h
section
variable {X : Cx} {C : Fx} {W : WX} {e : Expr} {pos : Pos} {fe : Stt → Res PV} {fa : Stt → Res (List PV)}
/-- a bag of the state gets other numbers -/
theorem OkF.updB {F H : Hp} {A : Nat → List Addr} {σ : L2.St} {s : Stt} (o : OkF C F A H σ s) {k : MKey} {g : List Int} {l t b l2 t2 : Int} {q : Addr} (hk : getK s k = some (.bag g l t b)) (hf : fpr A C k = [adr σ C k, q]) (hn : adr σ C k ≠ q) (hq : H q = some (.lst (g.map V.int))) :
    OkF C F A (L2.upd H (adr σ C k) (.dK (bagD q l2 t2 b))) σ (setK s k (.bag g l2 t2 b)) ∧ Step C F A H F A (L2.upd H (adr σ C k) (.dK (bagD q l2 t2 b))) := by
  refine o.upd hk (fun b hb => L2.upd_ne (fun e => hb (by rw [hf, e]; exact List.mem_cons_self))) (fun b hb => ?_) ⟨q, hf, hn, L2.upd_same, by rw [L2.upd_ne (Ne.symm hn)]; exact hq⟩
  rw [hf] at hb
  rcases List.mem_cons.mp hb with z | hb
  · rw [z, L2.upd_same]; simp
  · rw [List.mem_singleton] at hb
    rw [hb, L2.upd_ne (Ne.symm hn), hq]; simp
/-- a bag of the state gets another list -/
theorem OkF.updBg {F H : Hp} {A : Nat → List Addr} {σ : L2.St} {s : Stt} (o : OkF C F A H σ s) {k : MKey} {g g2 : List Int} {l t b : Int} {q : Addr} (hk : getK s k = some (.bag g l t b)) (hf : fpr A C k = [adr σ C k, q]) (hn : adr σ C k ≠ q) (hp : H (adr σ C k) = some (.dK (bagD q l t b))) :
    OkF C F A (L2.upd H q (.lst (g2.map V.int))) σ (setK s k (.bag g2 l t b)) ∧ Step C F A H F A (L2.upd H q (.lst (g2.map V.int))) := by
  refine o.upd hk (fun b hb => L2.upd_ne (fun e => hb (by rw [hf, e]; exact List.mem_cons_of_mem _ List.mem_cons_self))) (fun b hb => ?_) ⟨q, hf, hn, by rw [L2.upd_ne hn]; exact hp, L2.upd_same⟩
  rw [hf] at hb
  rcases List.mem_cons.mp hb with z | hb
  · rw [z, L2.upd_ne hn, hp]; simp
  · rw [List.mem_singleton] at hb
    rw [hb, L2.upd_same]; simp
/-- d["left"], d a bag -/
def eBag (i : Nat) (k : Str) : Stt → Res PV := fun s => match getM s i with
  | some (_, .bag _ l t b) => Res.opt s ((bagK k l t b).map PV.int)
  | _ => .stuck
theorem dv_bag (i : Nat) {x k : Str} {j} {p p2 : Pos} (hu : X.A.units + 1 < cLine) (hN : X.N[i]? = some x := by rfl) (hvis : Vis X.env.scope x := by first | exact Or.inl rfl | exact Or.inr (Or.inl rfl) | exact Or.inr (Or.inr rfl)) (hd : (x == ("__debug__" : Str)) = false := by decide)
    (hcd : (x == ("__classdict__" : Str)) = false := by decide) (hs : NoSl (.Constant (.str k) j p2) := by exact fun _ _ => rfl) : DV X C W (.Subscript (.Name x p) (.Constant (.str k) j p2) pos) (eBag i k) := by
  refine ⟨_, pe_dget hu (pe_var (i := i) hN hvis hd hcd) pe_str hs, fun F A H σ s Q o pp => ?_⟩
  unfold eBag at pp
  cases e1 : getM s i with
  | none => simp only [e1] at pp; exact pp.elim
  | some km =>
    obtain ⟨key, m⟩ := km
    simp only [e1] at pp
    cases m with
    | bag g l t b =>
      simp only at pp
      obtain ⟨g1, g2, q, hf, hn, hp, hq⟩ := mut_at o e1
      cases e2 : bagK k l t b with
      | none => rw [e2] at pp; exact pp.elim
      | some n =>
        rw [e2] at pp
        exact ⟨_, g2, _, .int n, rfl, (bag_get (q := q) e2) ▸ DGet.k (k := .inr k) hp, Post.now o pp (.int n)⟩
    | _ => exact pp.elim
/-- len(d["great"]) -/
def eBagLen (i : Nat) : Stt → Res PV := fun s => match getM s i with
  | some (_, .bag g _ _ _) => .ok (.int g.length) s
  | _ => .stuck
theorem dv_bagLen (i : Nat) {x : Str} {j} {p p2 p3 p4 : Pos} (hu : X.A.units + 1 < cLine) (hg : Gl X "len") (hm : X.mg "len" = none) (hN : X.N[i]? = some x := by rfl) (hvis : Vis X.env.scope x := by first | exact Or.inl rfl | exact Or.inr (Or.inl rfl) | exact Or.inr (Or.inr rfl)) (hd : (x == ("__debug__" : Str)) = false := by decide)
    (hcd : (x == ("__classdict__" : Str)) = false := by decide) (hs : NoSl (.Constant (.str "great") j p2) := by exact fun _ _ => rfl)
    (he : starEach [.Subscript (.Name x p) (.Constant (.str "great") j p2) p3] X.env = (false, eval (.Subscript (.Name x p) (.Constant (.str "great") j p2) p3) X.env) :: starEach [] X.env := by rfl) (hpl : (backTo pos (starEach [] X.env)).any (·.1) = false := by rfl) :
    DV X C W (.Call (.Name "len" p4) [.Subscript (.Name x p) (.Constant (.str "great") j p2) p3] [] pos) (eBagLen i) := by
  refine ⟨_, pe_callB call_len_seq hg hm (by first | rfl | kernel_rfl | decide +kernel) (pa_cons (pe_dget hu (pe_var (i := i) hN hvis hd hcd) pe_str hs) pa_nil he), fun F A H σ s Q o pp => ?_⟩
  unfold eBagLen at pp
  cases e1 : getM s i with
  | none => rw [e1] at pp; exact pp.elim
  | some km =>
    obtain ⟨key, m⟩ := km
    rw [e1] at pp
    cases m with
    | bag g l t b =>
      obtain ⟨g1, g2, q, hf, hn, hp, hq⟩ := mut_at o e1
      refine ⟨_, g2, _, .ref q, rfl, (bag_great (q := q) (l := l) (t := t) (b := b)) ▸ DGet.k (k := .inr "great") hp, q, g.map V.int, rfl, .inl (SqL.of hq), ?_⟩
      rw [List.length_map]
      exact Post.now o pp (.int _)
    | _ => exact pp.elim
/-- d["great"].pop(0) -/
def eBagPop (i : Nat) : Stt → Res PV := fun s => match getM s i with
  | some (k, .bag (n :: g) l t b) => .ok (.int n) (setK s k (.bag g l t b))
  | _ => .stuck
theorem dv_bagPop (i : Nat) {x : Str} {j j2} {p p2 p3 p4 p5 : Pos} (hu : X.A.units + 1 < cLine) (hN : X.N[i]? = some x := by rfl) (hvis : Vis X.env.scope x := by first | exact Or.inl rfl | exact Or.inr (Or.inl rfl) | exact Or.inr (Or.inr rfl)) (hd : (x == ("__debug__" : Str)) = false := by decide)
    (hcd : (x == ("__classdict__" : Str)) = false := by decide) (hs : NoSl (.Constant (.str "great") j p2) := by exact fun _ _ => rfl)
    (hbase : attributeBase (.Subscript (.Name x p) (.Constant (.str "great") j p2) p3) "pop" X.env (eval (.Subscript (.Name x p) (.Constant (.str "great") j p2) p3) X.env) = eval (.Subscript (.Name x p) (.Constant (.str "great") j p2) p3) X.env := by rfl)
    (hfew : ((backTo pos (starEach [.Constant (.int 0) j2 p5] X.env)).all (fun x => !x.1) && (backToKw pos (keywordEach [] X.env)).all (fun x => x.1.isSome)
      && decide (([.Constant (.int 0) j2 p5] : List Expr).length + ([] : List Keyword).length + (if ([] : List Keyword).isEmpty then 0 else 1) < 30)) = true := by rfl)
    (hline : (p4.endLine == pos.line) = true := by rfl) (hst : starEach [.Constant (.int 0) j2 p5] X.env = (false, eval (.Constant (.int 0) j2 p5) X.env) :: starEach [] X.env := by rfl) (hplain : (backTo pos (starEach [] X.env)).any (·.1) = false := by rfl) :
    DV X C W (.Call (.Attribute (.Subscript (.Name x p) (.Constant (.str "great") j p2) p3) "pop" p4) [.Constant (.int 0) j2 p5] [] pos) (eBagPop i) := by
  refine ⟨_, pe_bm PySem.F.plainAttrs_list PySem.F.slot_list_pop PySem.F.type_list_pop mt_popAt (pe_dget hu (pe_var (i := i) hN hvis hd hcd) pe_str hs) (pa_cons pe_int pa_nil hst) hbase hfew hline hst hplain, fun F A H σ s Q o pp => ?_⟩
  unfold eBagPop at pp
  cases e1 : getM s i with
  | none => rw [e1] at pp; exact pp.elim
  | some km =>
    obtain ⟨key, m⟩ := km
    rw [e1] at pp
    cases m with
    | bag g l t b =>
      cases g with
      | nil => exact pp.elim
      | cons n g =>
        obtain ⟨g1, g2, q, hf, hn, hp, hq⟩ := mut_at o e1
        refine ⟨_, g2, _, .ref q, rfl, (bag_great (q := q) (l := l) (t := t) (b := b)) ▸ DGet.k (k := .inr "great") hp, .inl ⟨rfl, _, SqL.of hq⟩, q, _, 0, 0, .int n, rfl, rfl, hq, by decide, by decide, ?_, rfl, ?_⟩
        · simp [seqIndex?]
        · obtain ⟨o3, st3⟩ := o.updBg (g2 := g) g1 hf hn hp
          exact pp _ _ _ _ o3 st3 (.int n)
    | _ => exact pp.elim
/-- d["left"] = v -/
def gBagSet (i : Nat) (k : Str) (fe : Stt → Res PV) : Stt → Fl := fun s => (fe s).fl fun p s1 => match p, getM s1 i with
  | .int n, some (key, .bag g l t b) => match bagS k n g l t b with
    | some m => .nx (setK s1 key m)
    | none => .stuck
  | _, _ => .stuck
theorem ds_bagSet (i : Nat) {x k : Str} {j} {p p2 p3 : Pos} {v : Expr} {fv : Stt → Res PV} (hu : X.A.units + 1 < cLine) (hv : DV X C W v fv) (hN : X.N[i]? = some x := by rfl) (hvis : Vis X.env.scope x := by first | exact Or.inl rfl | exact Or.inr (Or.inl rfl) | exact Or.inr (Or.inr rfl)) (hd : (x == ("__debug__" : Str)) = false := by decide)
    (hcd : (x == ("__classdict__" : Str)) = false := by decide) (hs : swapsWith v (some (.Subscript (.Name x p) (.Constant (.str k) j p2) p3)) pos.line X.env = pure false := by rfl) : DS X C W (.Assign [.Subscript (.Name x p) (.Constant (.str k) j p2) p3] v pos) (gBagSet i k fv) := by
  obtain ⟨tv, pv, qv⟩ := hv.pr
  refine ⟨_, ps_dput hu (pe_var (i := i) hN hvis hd hcd) pe_str pv hs, fun F A H σ s D o pp => ?_⟩
  refine qv F A H σ s _ o (PostS.seq pp fun pq s1 xv F1 A1 H1 _ o1 st1 r1 p1 => ?_)
  cases r1 with
  | int n =>
    cases e1 : getM s1 i with
    | none => simp only [e1] at p1; exact p1.elim
    | some km =>
      obtain ⟨key, m⟩ := km
      simp only [e1] at p1
      cases m with
      | bag g l t b =>
        simp only at p1
        obtain ⟨g1, g2, q, hf, hn, hp, hq⟩ := mut_at o1 e1
        cases e2 : bagS k n g l t b with
        | none => rw [e2] at p1; exact p1.elim
        | some m2 =>
          rw [e2] at p1
          obtain ⟨l2, t2, rfl, e3⟩ := bag_put (q := q) e2
          obtain ⟨o3, st3⟩ := o1.updB (l2 := l2) (t2 := t2) g1 hf hn hq
          refine ⟨_, g2, _, _, rfl, DPut.k (k := .inr k) hp (by rw [sizeLine_eq]; show (4 : Nat) < 16777216; decide), ?_⟩
          rw [e3]
          exact p1 _ _ _ _ o3 st3
      | _ => exact p1.elim
  | _ => exact p1.elim
/-- d["turn"] += v -/
def gBagAug (i : Nat) (k : Str) (fe : Stt → Res PV) : Stt → Fl := fun s => match getM s i with
  | some (_, .bag _ l t b) => match bagK k l t b with
    | some n => (fe s).fl fun p s1 => match p, getM s1 i with
      | .int n2, some (key, .bag g l t b) => match bagS k (n + n2) g l t b with
        | some m => .nx (setK s1 key m)
        | none => .stuck
      | _, _ => .stuck
    | none => .stuck
  | _ => .stuck
theorem ds_bagAug (i : Nat) {x k : Str} {j} {p p2 p3 : Pos} {v : Expr} {fv : Stt → Res PV} (hu : X.A.units + 1 < cLine) (hv : DV X C W v fv) (hN : X.N[i]? = some x := by rfl) (hvis : Vis X.env.scope x := by first | exact Or.inl rfl | exact Or.inr (Or.inl rfl) | exact Or.inr (Or.inr rfl)) (hd : (x == ("__debug__" : Str)) = false := by decide)
    (hcd : (x == ("__classdict__" : Str)) = false := by decide) (ha : ∀ ov iv new, augStore (.Constant (.str k) j p2) ov iv new = (do holding [new, ov, iv] (setItem ov iv new); release [new, ov, iv] []; pure .next) := by exact fun _ _ _ => rfl) : DS X C W (.AugAssign (.Subscript (.Name x p) (.Constant (.str k) j p2) p3) .Add v pos) (gBagAug i k fv) := by
  obtain ⟨tv, pv, qv⟩ := hv.pr
  refine ⟨_, ps_daug hu (pe_var (i := i) hN hvis hd hcd) pe_str pv in_add ha, fun F A H σ s D o pp => ?_⟩
  unfold gBagAug at pp
  cases e0 : getM s i with
  | none => simp only [e0] at pp; exact pp.elim
  | some km0 =>
    obtain ⟨key0, m0⟩ := km0
    simp only [e0] at pp
    cases m0 with
    | bag g0 l0 t0 b0 =>
      simp only at pp
      cases ek : bagK k l0 t0 b0 with
      | none => rw [ek] at pp; exact pp.elim
      | some n =>
        rw [ek] at pp
        simp only at pp
        obtain ⟨h1, h2, q0, hf0, hn0, hp0, hq0⟩ := mut_at o e0
        refine ⟨_, h2, _, .int n, rfl, (bag_get (q := q0) ek) ▸ DGet.k (k := .inr k) hp0, ?_⟩
        refine qv F A H σ s _ o (PostS.seq pp fun pq s1 xv F1 A1 H1 _ o1 st1 r1 p1 => ?_)
        cases r1 with
        | int n2 =>
          cases e1 : getM s1 i with
          | none => simp only [e1] at p1; exact p1.elim
          | some km =>
            obtain ⟨key, m⟩ := km
            simp only [e1] at p1
            cases m with
            | bag g l t b =>
              simp only at p1
              obtain ⟨g1, g2, q, hf, hn, hp, hq⟩ := mut_at o1 e1
              rw [h2] at g2
              have ea : adr σ C key0 = adr σ C key := V.ref.inj (Option.some.inj (Option.some.inj g2))
              cases e2 : bagS k (n + n2) g l t b with
              | none => rw [e2] at p1; exact p1.elim
              | some m2 =>
                rw [e2] at p1
                obtain ⟨l2, t2, rfl, e3⟩ := bag_put (q := q) e2
                obtain ⟨o3, st3⟩ := o1.updB (l2 := l2) (t2 := t2) g1 hf hn hq
                refine ⟨n, n2, rfl, rfl, _, by rw [ea]; exact DPut.k (k := .inr k) hp (by rw [sizeLine_eq]; show (4 : Nat) < 16777216; decide), ?_⟩
                rw [e3]
                exact p1 _ _ _ _ o3 st3
            | _ => exact p1.elim
        | _ => exact p1.elim
    | _ => exact pp.elim
/-- {"great": g, "left": e, "turn": e, "blend": e}, g a list of the state that is not named again -/
def oBag (i : Nat) (fa : Stt → Res (List PV)) : Stt → Res MO := fun s => match s.ro[i]? with
  | some (some (.own (.lst _))) => (fa s).bind fun ps s1 => match ps, s1.ro[i]? with
    | [.int l, .int t, .int b], some (some (.own (.lst L))) => match allInt L with
      | some g => .ok (.bag g l t b) ⟨s1.ro.set i none, s1.mu⟩
      | none => .stuck
    | _, _ => .stuck
  | _ => .stuck
theorem do_bag (i : Nat) {x : Str} {ke : Expr} {keys : List (Option Expr)} {values : List Expr} {p0 : Pos} (hk : PE X ke (tC (.str "great"))) (hd : DPr X C W pos keys values ["left", "turn", "blend"] fa)
    (hall : (some ke :: keys).all (·.isSome) = true := by rfl) (hl : (some ke :: keys).length = (Expr.Name x p0 :: values).length := by rfl) (h15 : (some ke :: keys).length ≤ 15 := by decide)
    (hN : X.N[i]? = some x := by rfl) (hvis : Vis X.env.scope x := by first | exact Or.inl rfl | exact Or.inr (Or.inl rfl) | exact Or.inr (Or.inr rfl)) (hdb : (x == ("__debug__" : Str)) = false := by decide)
    (hcd : (x == ("__classdict__" : Str)) = false := by decide) : DO X C W (.Dict (some ke :: keys) (.Name x p0 :: values) pos) (oBag i fa) := by
  obtain ⟨trs, pps, qp⟩ := hd.pr
  refine ⟨_, pe_disp (pps_cons hk (pe_var (i := i) hN hvis hdb hcd) pps) hall hl (by simp) h15, fun F A H σ s Q o pp => ?_⟩
  intro p hp
  obtain ⟨o1, st1⟩ := o.laidX (u := .dK []) hp
  have hF : F p = none := o.sub.free hp
  have hA : ¬ OwnA A p := fun ⟨i, z⟩ => (o.free i p z).2 hp
  have hB : ¬ Bor C p := fun ⟨q, hq, z⟩ => by
    have hm : q < s.mu.length := by rw [o.nb]; exact hq
    exact (o.bor q s.mu[q] (List.getElem?_eq_getElem hm)).there p z hp
  unfold oBag at pp
  split at pp
  · rename_i L0 e0
    obtain ⟨q0, h0, _⟩ := o.own i _ e0
    refine ⟨_, h0, ?_⟩
    refine qp F A _ σ s _ o1 ?_
    cases hr : fa s with
    | stuck => rw [hr] at pp; exact pp
    | ex c v s2 => rw [hr] at pp; exact fun d F' A' H' o' st' x => pp d F' A' H' o' (st1.trans st') x
    | ok ps s2 =>
      rw [hr] at pp
      simp only [Res.bind_ok] at pp
      intro vs F2 A2 H2 o2 st2 r2
      split at pp
      · rename_i l t b L e2
        cases eg : allInt L with
        | none => rw [eg] at pp; exact pp.elim
        | some g =>
          rw [eg] at pp
          obtain ⟨ws, f1, f2, f3⟩ := r2
          obtain ⟨q, hq1, o3, st3, fp, m3, fr3⟩ := o2.mv e2
          rw [h0] at hq1
          obtain rfl : q0 = q := V.ref.inj (Option.some.inj (Option.some.inj hq1))
          obtain ⟨rfl, xs, hx, hxs⟩ := m3
          have hL : L = g.map PV.int := allInt_eq eg
          rw [hL] at hxs
          have hxs' : xs = g.map V.int := hxs.ints
          subst hxs'
          have h2p : H2 p = some (.dK []) := st2.s4 p _ L2.upd_same (fun _ z => by cases z) hA hB
          have hA2 : ¬ OwnA A2 p := fun z => by
            rcases st2.s3 p z with z | z
            · exact hA z
            · rw [L2.upd_same] at z; cases z
          have hF2 : F2 p = none := by
            cases e : F2 p with
            | none => rfl
            | some u =>
              exfalso
              rcases st2.s2 p (by rw [e]; simp) with z | z | z
              · exact z hF
              · rw [L2.upd_same] at z; cases z
              · exact hA z
          have hA3 : ¬ OwnA (dropA A2 i) p := fun z => by
            rcases st3.s3 p z with z | z
            · exact hA2 z
            · rw [h2p] at z; cases z
          have hpq : p ≠ q0 := fun z => by rw [← z, h2p] at hx; cases hx
          have ews : ws = [.int l, .int t, .int b] := f2.ints (ns := [l, t, b])
          subst ews
          refine ⟨h2p, bagD q0 l t b, by rw [f1]; rfl, by show (4 : Nat) ≤ 15; decide, ?_⟩
          rw [show mergeK [] (bagD q0 l t b) = bagD q0 l t b from (merge_new (bagD q0 l t b) [] (by
            show ([.inr "great", .inr "left", .inr "turn", .inr "blend"] : List Key).Nodup
            decide +kernel)).trans (List.nil_append _)]
          have o4 := o3.updX (u := .dK (bagD q0 l t b)) hF2 hA3 hB (by rw [h2p]; simp) (fun z e => by rw [h2p] at e; cases e; exact fun z => z)
          have st := (st1.trans st2).trans st3
          have stp : Step C F A H F2 (dropA A2 i) (L2.upd H2 p (.dK (bagD q0 l t b))) := ⟨st.s1, st.s2, st.s3, fun b o hb ht ho hB' => by
            have : b ≠ p := fun z => by rw [z, hp] at hb; cases hb
            rw [L2.upd_ne this]
            exact st.s4 b o hb ht ho hB', fun b hb => by
            by_cases z : b = p
            · rw [z, L2.upd_same]; simp
            · rw [L2.upd_ne z]; exact st.s5 b hb⟩
          refine pp p _ _ _ o4 stp ⟨[p, q0], ⟨q0, rfl, hpq, L2.upd_same, by rw [L2.upd_ne (Ne.symm hpq)]; exact hx⟩, fun b hb => ?_⟩
          rcases List.mem_cons.mp hb with z | hb
          · rw [z]
            exact ⟨hF2, hA3, hB, .inl hp⟩
          · rw [List.mem_singleton] at hb
            rw [hb]
            obtain ⟨x1, x2, x3, x4⟩ := fr3 q0 List.mem_cons_self
            refine ⟨x1, x2, x3, ?_⟩
            rcases x4 with z | z
            · rw [hx] at z; cases z
            · rcases (st1.trans st2).s3 q0 z with z | z
              · exact .inr z
              · exact .inl z
      · exact pp.elim
  · exact pp.elim
end
/-! ### t < u, tuples of numbers -/
end PL
/-! PLU: sorted(set(xs)), xs a list of ints; xs.count(x). -/
namespace PL
open PySem PySem.Spec PyProof.Rows L2
/-! ### the numbers of a list, each once, ascending -/
end PL
/-! PLT: the law's own end. -/
namespace PL
open PySem PySem.Spec PyProof.Rows L2
/-- the script as the law meets it -/
def scrOf (ns : List Int) : PV := .scr (ns.map PV.int)
theorem law_sp {K : PySem.W.Frag} {cl : Str → Addr} {m : List SV → List MO → FRes} (hm : ∀ ns : List Int, ns.length ≤ 63 → m [.val (scrOf ns)] [] = .ok (.bl true) []) {H : Hp} {a : Addr} {ns : List Int} (hl : ns.length ≤ 63) (hS : SqL K H a (ns.map V.int)) (hT : TabOk cl H H := by first | exact tabOk_0 | exact tabOk_nil) :
    spOf K cl 1 m [.ref a] H (fun v _ => v = .bl true) fun _ _ _ => False := by
  refine ⟨rfl, ⟨K, cl, 0, fun _ => 0, fun _ => [], 0, fun _ => none⟩, H, [.val (scrOf ns)], [], rfl, rfl, ?_, .val (.scr hS (Rps.of_ints ns)) .nil, ?_⟩
  · exact ⟨rfl, fun _ _ h => h, fun i v e => by simp at e, fun i m e => by simp at e, rfl, fun i k e => by simp at e, fun k m e => by simp at e, fun i b h => absurd h (by simp [noA]), fun _ _ _ h _ => absurd h (by simp [noA]), fun k b h _ => absurd h (Nat.not_lt_zero k), fun k j b h _ _ _ => absurd h (Nat.not_lt_zero k), ⟨(fun _ _ h => nomatch h), hT⟩⟩
  · rw [hm ns hl]
    intro u F' H' o st r
    cases r
    rfl
theorem no_cx {P : Program} {w : World} {H : Hp} {s : Shared} {e : Value} {s' : Shared} (h : L2.CX P w [] H s (fun _ _ _ => False) e s') : False := by
  obtain ⟨_, _, _, _, _, _, _, _, _, _, _, _, z⟩ := h
  exact z
end PL
/-! PLL: lambdas: their making, what the state knows then. -/
namespace PL
open PySem PySem.Spec PyProof.Rows L2 LamX
/-- the words of a lambda -/
structure LF where
  qual : Str
  params : Arguments
  body : Expr
  scope : Scope
  cl : List (Str × Addr)
  c : Addr
/-- the object at f is the lambda F -/
def LamO (f : Addr) (F : LF) : HO := .ext fun h => ∃ (pm ctv : Value), h.get? f = some (PySem.W.kla_obj "<lambda>" F.qual F.params F.body F.scope F.cl pm F.c ctv)
section
variable {X : Cx} {pins : List (Addr × Obj)} {σ : L2.St} {H : Hp} {s : Shared}
/-- what a lambda's making did: its code object is new, or the table told it -/
inductive Made (H : Hp) (P : Addr) (ps : Array Value) (pos : Pos) (mk : Addr → LF) (f c' : Addr) : Hp → Prop
  | new : H c' = none → c' ≠ f → Made H P ps pos mk f c' (L2.upd (L2.upd (L2.upd H P (.tbl (ps ++ #[rawInt pos.line, rawInt pos.col, .ref c']))) c' (CodeO c' (mk c').qual)) f (LamO f (mk c')))
  | hit : codeAmong pos ps.toList = some (.ref c') → Made H P ps pos mk f c' (L2.upd H f (LamO f (mk c')))
end
end PL
/-! PLL2: functions that are handed to defs. -/
namespace PL
open PySem PySem.Spec PyProof.Rows L2 LamX
mutual
/-- no function within -/
def noFn : PV → Bool
  | .fnp => false
  | .tup l => noFns l
  | .lst l => noFns l
  | .scr l => noFns l
  | .ins _ fs => noFnf fs
  | .exi _ v => noFn v
  | _ => true
def noFns : List PV → Bool
  | [] => true
  | p :: r => noFn p && noFns r
def noFnf : List (Str × PV) → Bool
  | [] => true
  | p :: r => noFn p.2 && noFnf r
end
mutual
theorem Rp.sw {C D : Fx} {F : Hp} (hk : D.K = C.K) (hc : D.cl = C.cl) : ∀ {v : V} {p : PV}, Rp C F v p → noFn p = true → Rp D F v p
  | _, _, .non, _ => .non
  | _, _, .bl b, _ => .bl b
  | _, _, .int i, _ => .int i
  | _, _, .str x, _ => .str x
  | _, _, .tup (l := l) h r, n => .tup (by rw [hk]; exact h) (Rps.sw hk hc r (show noFns l = true from n))
  | _, _, .lst (l := l) h r, n => .lst h (Rps.sw hk hc r (show noFns l = true from n))
  | _, _, .scr (l := l) h r, n => .scr (by rw [hk]; exact h) (Rps.sw hk hc r (show noFns l = true from n))
  | _, _, .ins (l := l) h r, n => .ins (by rw [hc]; exact h) (Rpf.sw hk hc r (show noFnf l = true from n))
  | _, _, .fnp, n => by cases n
  | _, _, .exi (p := p) h k r, n => .exi (by rw [hc]; exact h) k (Rp.sw hk hc r (show noFn p = true from n))
theorem Rps.sw {C D : Fx} {F : Hp} (hk : D.K = C.K) (hc : D.cl = C.cl) : ∀ {v : List V} {p : List PV}, Rps C F v p → noFns p = true → Rps D F v p
  | _, _, .nil, _ => .nil
  | _, p :: r, .cons h t, n => by
    have n : (noFn p && noFns r) = true := n
    rw [Bool.and_eq_true] at n
    exact .cons (Rp.sw hk hc h n.1) (Rps.sw hk hc t n.2)
theorem Rpf.sw {C D : Fx} {F : Hp} (hk : D.K = C.K) (hc : D.cl = C.cl) : ∀ {v : List (Str × V)} {p : List (Str × PV)}, Rpf C F v p → noFnf p = true → Rpf D F v p
  | _, _, .nil, _ => .nil
  | _, (_, p) :: r, .cons h t, n => by
    have n : (noFn p && noFnf r) = true := n
    rw [Bool.and_eq_true] at n
    exact .cons (Rp.sw hk hc h n.1) (Rpf.sw hk hc t n.2)
end
/-- the context of a def that nothing is lent to -/
def bare (C : Fx) (fa : Addr) (F0 : Hp) : Fx := ⟨C.K, C.cl, 0, fun _ => 0, fun _ => [], fa, F0⟩
section
variable {C : Fx} {F H F' H' F0 : Hp} {A : Nat → List Addr} {σ : L2.St} {s : Stt} {fa : Addr}
theorem OkF.bare (o : OkF C F A H σ s) (h0 : Same F0 F) : OkF (PL.bare C fa F0) F noA H [] ⟨[], []⟩ :=
  ⟨rfl, o.sub, fun i v e => by simp at e, fun i m e => by simp at e, rfl, fun i k e => by simp at e, fun k m e => by simp at e, fun i b h => absurd h (by simp [noA]), fun _ _ _ h _ => absurd h (by simp [noA]), fun k b hk _ => absurd hk (Nat.not_lt_zero k), fun k j b h _ _ _ => absurd h (Nat.not_lt_zero k), ⟨h0, o.ext.2⟩⟩
end
section
variable (P : Program) (w : World) (K : PySem.W.Frag) (mg : Str → Option Value) (base : Heap) (cl : Str → Addr)
/-- what is known of the function at fa: sem tells its calls, where T holds (T speaks of the cells cs) and the plain things F0 stand -/
structure FunP (kf : Nat) (fa : Addr) (sem : List PV → Option PV) (F0 : Hp) (cs : List Addr) (T : Heap → Hp → Prop) : Prop where
  stab : ∀ fs H H' h h', (∀ c ∈ cs, c ∉ fs) → Un fs [] H H' h h' → T h H → T h' H'
  lt : ∀ h H, T h H → ∀ c ∈ cs, c < h.objs.size
  obj : ∃ L : LF, F0 fa = some (LamO fa L)
  call : ∀ (A : Around) (outer : List Env) (s : Shared) (H : Hp) (D : Fx) (F : Hp) (us : List Value) (vs : List V) (ps : List PV) (z : PV) (Q : VK) (E : XK), Room kf A → A.guards = some [] → Env0 P w K mg base A outer s H → T s.heap H → (∀ c ∈ cs, c ∉ frs outer) → Same F0 F →
    D.K = K → D.cl = cl → OkF D F noA H [] ⟨[], []⟩ → Vals vs us → Rps D F vs ps → noFns ps = true → sem ps = some z →
    (∀ u F' H', OkF D F' noA H' [] ⟨[], []⟩ → Step D F noA H F' noA H' → Rp D F' u z → Q u H') → codeAny (model P w) A (.call (.ref fa) ⟨us, []⟩) (CR (L2.CX P w) outer P w H s Q E) s
end
section
variable {P : Program} {w : World} {K : PySem.W.Frag} {mg : Str → Option Value} {base : Heap} {cl : Str → Addr}
theorem FunP.mono {j k : Nat} {fa : Addr} {sem : List PV → Option PV} {F0 : Hp} {cs : List Addr} {T : Heap → Hp → Prop} (h : FunP P w K mg base cl j fa sem F0 cs T) (hj : j ≤ k) : FunP P w K mg base cl k fa sem F0 cs T :=
  ⟨h.stab, h.lt, h.obj, fun A outer s H D F us vs ps z Q E hr => h.call A outer s H D F us vs ps z Q E (hr.mono hj)⟩
end
end PL
/-! PLL3: a lambda is handed to a def. -/
namespace PL
open PySem PySem.Spec PyProof.Rows L2 LamX
/-! ### the call -/
end PL
/-! PLL4: the law's own end where the program makes lambdas. -/
namespace PL
open PySem PySem.Spec PyProof.Rows L2 LamX
end PL
/-! PLM: laws about the mirrors' words: loops, comprehensions, data shown and compared. -/
namespace PL
open PySem PySem.Spec PyProof.Rows L2
/-! ### loops -/
theorem forL_nil (a : PV → Stt → Option Stt) (b : Stt → Fl) (s : Stt) : forL a b [] s = .nx s := rfl
/-- a loop that comes to its end: I by the turn -/
theorem forL_inv {a : PV → Stt → Option Stt} {b : Stt → Fl} (I : Nat → Stt → Prop) : ∀ (l : List PV) (k : Nat) (s : Stt), I k s →
    (∀ i p s, l[i]? = some p → I (k + i) s → ∃ s1, a p s = some s1 ∧ ∃ s2, (b s1 = .nx s2 ∨ b s1 = .ct s2) ∧ I (k + i + 1) s2) → ∃ s2, forL a b l s = .nx s2 ∧ I (k + l.length) s2
  | [], k, s, h0, _ => ⟨s, rfl, h0⟩
  | p :: r, k, s, h0, h => by
    obtain ⟨s1, e1, s2, e2, h2⟩ := h 0 p s rfl h0
    have ih := forL_inv I r (k + 1) s2 h2 fun i q s' hq hI => by
      obtain ⟨t1, g1, t2, g2, g3⟩ := h (i + 1) q s' (by simpa using hq) (by rw [show k + (i + 1) = k + 1 + i by omega]; exact hI)
      exact ⟨t1, g1, t2, g2, by rw [show k + 1 + i + 1 = k + (i + 1) + 1 by omega]; exact g3⟩
    obtain ⟨s3, e3, h3⟩ := ih
    refine ⟨s3, ?_, by rw [List.length_cons, show k + (r.length + 1) = k + 1 + r.length by omega]; exact h3⟩
    rw [forL_cons _ _ _ _ _ _ e1]
    rcases e2 with e2 | e2 <;> rw [e2] <;> exact e3
/-! ### data shown and compared -/
theorem join_len_le (n : Nat) : ∀ ts : List Str, (∀ t ∈ ts, t.length ≤ n) → (Str.join ", " ts).length ≤ ts.length * (n + 2)
  | [], _ => by simp [Str.join]; decide
  | [x], h => by
    have := h x List.mem_cons_self
    show x.length ≤ 1 * (n + 2)
    omega
  | x :: y :: r, h => by
    have ih := join_len_le n (y :: r) fun t ht => h t (List.mem_cons_of_mem _ ht)
    have hx := h x List.mem_cons_self
    show (x ++ (", " : Str) ++ Str.join ", " (y :: r)).length ≤ _
    have e2 : ((", " : String) : Str).length = 2 := by decide
    rw [PySem.Str.length_append, PySem.Str.length_append, e2]
    simp only [List.length_cons] at ih ⊢
    have : (r.length + 1 + 1) * (n + 2) = (r.length + 1) * (n + 2) + (n + 2) := by rw [Nat.add_mul (r.length + 1) 1, Nat.one_mul]
    omega
theorem tupleText_le (n : Nat) (ts : List Str) (h : ∀ t ∈ ts, t.length ≤ n) : (tupleText ts).length ≤ ts.length * (n + 2) + 3 := by
  unfold tupleText
  rw [PySem.Str.length_append, PySem.Str.length_append]
  have e1 : ((("(" : String) : Str)).length = 1 := by decide
  have e2 : ((if ts.length == 1 then ",)" else ")" : String) : Str).length ≤ 2 := by split <;> decide
  have := join_len_le n ts h
  omega
theorem listText_le (n : Nat) (ts : List Str) (h : ∀ t ∈ ts, t.length ≤ n) : (listText ts).length ≤ ts.length * (n + 2) + 3 := by
  rw [show listText ts = (("[" : String) : Str) ++ Str.join ", " ts ++ (("]" : String) : Str) from listText_eq_join ts]
  rw [PySem.Str.length_append, PySem.Str.length_append]
  have e1 : ((("[" : String) : Str)).length = 1 := by decide
  have e2 : ((("]" : String) : Str)).length = 1 := by decide
  have := join_len_le n ts h
  omega
abbrev SO (x : Str) : Prop := PyData.strOk x = true
theorem so_of (s : String) : SO (Str.ofString s) := by
  show PyData.strOk _ = true
  rw [Str.ofString_eq_toList]
  unfold PyData.strOk
  simp only [List.all_toArray, List.all_map, List.all_eq_true]
  intro c _
  have := c.valid
  have h2 : c.toNat < 1114112 := by
    have h3 : c.val.toNat < 0xd800 ∨ 0xdfff < c.val.toNat ∧ c.val.toNat < 0x110000 := c.valid
    show c.val.toNat < 1114112
    omega
  simpa using h2
theorem so_app {x y : Str} (hx : SO x) (hy : SO y) : SO (x ++ y) := by
  unfold SO PyData.strOk at *
  show ((x.cps ++ y.cps).all _) = true
  rw [Array.all_append, hx, hy]
  rfl
theorem so_join {sep : Str} (h0 : SO sep) : ∀ {ts : List Str}, (∀ t ∈ ts, SO t) → SO (Str.join sep ts)
  | [], _ => so_of ""
  | [x], h => h x List.mem_cons_self
  | x :: y :: r, h => so_app (so_app (h x List.mem_cons_self) h0) (so_join h0 fun t ht => h t (List.mem_cons_of_mem _ ht))
theorem so_list {ts : List Str} (h : ∀ t ∈ ts, SO t) : SO (listText ts) := by
  rw [show listText ts = (("[" : String) : Str) ++ Str.join ", " ts ++ (("]" : String) : Str) from listText_eq_join ts]
  exact so_app (so_app (so_of "[") (so_join (so_of ", ") h)) (so_of "]")
theorem so_tuple {ts : List Str} (h : ∀ t ∈ ts, SO t) : SO (tupleText ts) := by
  unfold tupleText
  exact so_app (so_app (so_of "(") (so_join (so_of ", ") h)) (so_of _)
/-- p is data: shown in at most n signs, nested at most k deep -/
structure Rk (p : PV) (n k : Nat) : Prop where
  ex : ∃ d, toD p = some d ∧ d.showable = true ∧ d.hasDict = false ∧ d.canLay0 = true ∧ d.shown.length ≤ n ∧ d.depth ≤ k ∧ SO d.shown
structure Rks (l : List PV) (n k : Nat) : Prop where
  ex : ∃ ds, toDs l = some ds ∧ PyData.showableAll ds = true ∧ PyData.hasDictAll ds = false ∧ PyData.canLayAll0 ds = true ∧ (∀ t ∈ PyData.shownAll ds, t.length ≤ n) ∧ PyData.depthAll ds ≤ k ∧ ds.length = l.length ∧ ∀ t ∈ PyData.shownAll ds, SO t
theorem Rk.mono {p : PV} {n k n' k' : Nat} (h : Rk p n k) (hn : n ≤ n') (hk : k ≤ k') : Rk p n' k' := by
  obtain ⟨d, h1, h2, h3, h4, h5, h6, h7⟩ := h.ex
  exact ⟨d, h1, h2, h3, h4, Nat.le_trans h5 hn, Nat.le_trans h6 hk, h7⟩
theorem Rks.of {n k : Nat} : ∀ {l : List PV}, (∀ p ∈ l, Rk p n k) → Rks l n k
  | [], _ => ⟨[], rfl, by simp [PyData.showableAll], by simp [PyData.hasDictAll], by simp [PyData.canLayAll0], by simp [PyData.shownAll], by simp [PyData.depthAll], rfl, by simp [PyData.shownAll]⟩
  | p :: r, h => by
    obtain ⟨d, h1, h2, h3, h4, h5, h6, h7⟩ := (h p List.mem_cons_self).ex
    obtain ⟨ds, g1, g2, g3, g4, g5, g6, g7, g8⟩ := (Rks.of (l := r) fun q hq => h q (List.mem_cons_of_mem _ hq)).ex
    refine ⟨d :: ds, ?_, ?_, ?_, ?_, ?_, ?_, by simp [g7], ?_⟩
    · unfold toDs; rw [h1, g1]
    · rw [PyData.showableAll, h2, g2]; rfl
    · rw [PyData.hasDictAll, h3, g3]; rfl
    · rw [PyData.canLayAll0, h4, g4]; rfl
    · rw [PyData.shownAll]
      intro t ht
      rcases List.mem_cons.mp ht with e | e
      · rw [e]; exact h5
      · exact g5 t e
    · rw [PyData.depthAll]
      omega
    · rw [PyData.shownAll]
      intro t ht
      rcases List.mem_cons.mp ht with e | e
      · rw [e]; exact h7
      · exact g8 t e
theorem shownAll_length : ∀ ds : List PyData, (PyData.shownAll ds).length = ds.length
  | [] => by simp [PyData.shownAll]
  | d :: r => by rw [PyData.shownAll, List.length_cons, List.length_cons, shownAll_length r]
theorem Rk.non : Rk .non 4 0 := ⟨.none, rfl, by simp [PyData.showable], by simp [PyData.hasDict], by simp [PyData.canLay0], by simp [PyData.shown]; decide, by simp [PyData.depth], by simp only [PyData.shown]; exact so_of _⟩
theorem Rk.bl (b : Bool) : Rk (.bl b) 5 0 := ⟨.bool b, rfl, by simp [PyData.showable], by simp [PyData.hasDict], by simp [PyData.canLay0], by cases b <;> simp [PyData.shown] <;> decide, by simp [PyData.depth], by cases b <;> simp only [PyData.shown] <;> exact so_of _⟩
theorem Rk.int {i : Int} (h : i.natAbs.log2 < 1920) : Rk (.int i) 1921 0 := by
  refine ⟨.int i, rfl, by simpa [PyData.showable] using h, by simp [PyData.hasDict], by simp [PyData.canLay0], ?_, by simp [PyData.depth], by simp only [PyData.shown]; exact so_of _⟩
  have := int_text_length_le (a := i) (k := 1920) (by decide) h
  simp only [PyData.shown]
  rw [PySem.ofString_length]
  exact this
/-- a number of few digits -/
theorem Rk.int10 {i : Int} {k : Nat} (h0 : 0 < k) (hk : k ≤ 500) (h : i.natAbs < 10 ^ k) : Rk (.int i) (k + 1) 0 := by
  have hlog : i.natAbs.log2 < 1920 := by
    by_cases hz : i.natAbs = 0
    · rw [hz]; decide
    · rw [Nat.log2_lt hz]
      refine Nat.lt_trans h (Nat.lt_of_le_of_lt (Nat.pow_le_pow_right (by decide) hk) (by decide +kernel))
  refine ⟨.int i, rfl, by simpa [PyData.showable] using hlog, by simp [PyData.hasDict], by simp [PyData.canLay0], ?_, by simp [PyData.depth], by simp only [PyData.shown]; exact so_of _⟩
  have := int_text_length_le10 (a := i) h0 h
  simp only [PyData.shown]
  rw [PySem.ofString_length]
  exact this
theorem Rk.lst {l : List PV} {n k : Nat} (h : ∀ p ∈ l, Rk p n k) : Rk (.lst l) (l.length * (n + 2) + 3) (k + 1) := by
  obtain ⟨ds, g1, g2, g3, g4, g5, g6, g7, g8⟩ := (Rks.of h).ex
  refine ⟨.list ds, by show (toDs l).map _ = _; rw [g1]; rfl, by rw [PyData.showable]; exact g2, by rw [PyData.hasDict]; exact g3, by rw [PyData.canLay0]; exact g4, ?_, by rw [PyData.depth]; omega, by rw [PyData.shown]; exact so_list g8⟩
  rw [PyData.shown]
  have := listText_le n _ g5
  rw [shownAll_length, g7] at this
  exact this
theorem Rk.tup {l : List PV} {n k : Nat} (h : ∀ p ∈ l, Rk p n k) : Rk (.tup l) (l.length * (n + 2) + 3) (k + 1) := by
  obtain ⟨ds, g1, g2, g3, g4, g5, g6, g7, g8⟩ := (Rks.of h).ex
  refine ⟨.tuple ds, by show (toDs l).map _ = _; rw [g1]; rfl, by rw [PyData.showable]; exact g2, by rw [PyData.hasDict]; exact g3, by rw [PyData.canLay0]; exact g4, ?_, by rw [PyData.depth]; omega, by rw [PyData.shown]; exact so_tuple g8⟩
  rw [PyData.shown]
  have := tupleText_le n _ g5
  rw [shownAll_length, g7] at this
  exact this
theorem Rk.repr {p : PV} {n k : Nat} (h : Rk p n k) (hn : n ≤ 16777216) (hk : k ≤ 30) : ∃ x, pRepr [p] = some (.str x) := by
  obtain ⟨d, h1, h2, h3, h4, h5, h6, h7⟩ := h.ex
  refine ⟨d.shown, ?_⟩
  unfold pRepr
  simp only [h1]
  rw [if_pos]
  unfold okRepr
  rw [h2, h3, decide_eq_true (Nat.le_trans h5 hn), decide_eq_true (Nat.le_trans h6 hk)]
  rfl
theorem Rk.shaped {p : PV} {n k : Nat} (h : Rk p n k) (hk : k ≤ 64) : ∃ d, toD p = some d ∧ SeqAt.shaped d = true ∧ d.canLay0 = true := by
  obtain ⟨d, h1, h2, h3, h4, h5, h6, h7⟩ := h.ex
  refine ⟨d, h1, ?_, h4⟩
  unfold SeqAt.shaped
  rw [h4, decide_eq_true (Nat.le_trans h6 hk)]
  rfl
/-! lists of numbers -/
theorem eqB_int (a b : Int) : pEqB (.int a) (.int b) = some (a == b) := by
  simp [pEqB, toD, SeqAt.shaped, PyData.canLay0, PyData.depth, PyData.eqv]
end PL
/-! PM: the mirrors of the program's defs (printed by gen.py). -/
namespace PM
open PySem PySem.Spec PyProof.Rows L2 PL
noncomputable def g__law_draw : Stt → Fl :=
  (gSeq (gIf (tOf (eBin pGt (eIxM 0 (eC (.int 0))) (eC (.int 0))))
  (gSeq (gAsg (eBin pMod (eIxM 0 (eC (.int 0))) (eVar 1)) (aName 2))
  (gSeq (gSetIx 0 (eBin pFdiv (eIxM 0 (eC (.int 0))) (eVar 1)) (eC (.int 0)))
  (gSeq (gRet (eVar 2))
  gNop)))
  gNop)
  (gSeq (gSetIx 0 (eBin pAdd (eIxM 0 (eC (.int 2))) (eC (.int 1))) (eC (.int 2)))
  (gSeq (gAsg (eBin pMod (eBin pPow (eBin pAdd (eIxM 0 (eC (.int 1))) (eBin pMul (eC (.int 179424673)) (eIxM 0 (eC (.int 2))))) (eC (.int 3))) (eC (.int 162259276829213363391578010288127))) (aName 3))
  (gSeq (gAsg (eBin pMod (eBin pPow (eBin pAdd (eVar 3) (eBin pMul (eC (.int 86028157)) (eIxM 0 (eC (.int 2))))) (eC (.int 3))) (eC (.int 170141183460469231731687303715884105727))) (aName 3))
  (gSeq (gRet (eBin pMod (eBin pFdiv (eVar 3) (eC (.int 2097152))) (eVar 1)))
  gNop)))))
noncomputable def m__law_draw : List SV → List MO → FRes := mOf 4 g__law_draw
end PM
/-! PN: guards: the plain law. -/
namespace PN
def firstOf (l s r : Int) : Int := l + (r - l) % s
def lanesOf (l h s r : Int) : Int := max 0 ((h - firstOf l s r + s - 1) / s)
theorem first_ge {l s r : Int} (hs : 0 < s) : l ≤ firstOf l s r := by
  unfold firstOf
  have := Int.emod_nonneg (r - l) (show s ≠ 0 by omega)
  omega
theorem first_lt {l s r : Int} (hs : 0 < s) : firstOf l s r < l + s := by
  unfold firstOf
  have := Int.emod_lt_of_pos (r - l) hs
  omega
theorem first_mod {l s r : Int} (hs : 0 < s) (h0 : 0 ≤ r) (h1 : r < s) : firstOf l s r % s = r := by
  unfold firstOf
  have e : (l + (r - l) % s) % s = (l + (r - l)) % s := by rw [Int.add_emod, Int.emod_emod_of_dvd _ (Int.dvd_refl s), ← Int.add_emod]
  rw [e, show l + (r - l) = r by omega]
  exact Int.emod_eq_of_lt h0 h1
/-- a number below the count of lanes names a lane below high -/
theorem lanes_lt {l h s r k : Int} (hs : 0 < s) (hk : 0 ≤ k) : k < lanesOf l h s r ↔ firstOf l s r + s * k < h := by
  unfold lanesOf
  have e : (k < max 0 ((h - firstOf l s r + s - 1) / s)) ↔ k < (h - firstOf l s r + s - 1) / s := by
    constructor
    · intro z
      rcases Int.le_total 0 ((h - firstOf l s r + s - 1) / s) with q | q
      · rwa [Int.max_eq_right q] at z
      · rw [Int.max_eq_left q] at z; omega
    · intro z
      exact Int.lt_of_lt_of_le z (Int.le_max_right _ _)
  rw [e]
  have e2 : k < (h - firstOf l s r + s - 1) / s ↔ (k + 1) * s ≤ h - firstOf l s r + s - 1 := by
    rw [← Int.le_ediv_iff_mul_le hs]
    omega
  rw [e2, Int.add_mul, Int.one_mul, Int.mul_comm k s]
  omega
theorem lane_iff {l h s r x : Int} (hs : 0 < s) (h0 : 0 ≤ r) (h1 : r < s) : (l ≤ x ∧ x < h ∧ x % s = r) ↔ ∃ k, 0 ≤ k ∧ k < lanesOf l h s r ∧ x = firstOf l s r + s * k := by
  have fm := first_mod (l := l) hs h0 h1
  constructor
  · rintro ⟨a, b, c⟩
    have d : s ∣ x - firstOf l s r := by
      refine Int.dvd_of_emod_eq_zero ?_
      rw [Int.sub_emod, c, fm, Int.sub_self, Int.zero_emod]
    obtain ⟨k, hk⟩ := d
    have ex : x = firstOf l s r + s * k := by omega
    have k0 : 0 ≤ k := by
      have f1 := first_lt (l := l) (r := r) hs
      rcases Int.lt_or_le k 0 with z | z
      · have : s * k ≤ s * (-1) := Int.mul_le_mul_of_nonneg_left (by omega) (by omega)
        omega
      · exact z
    exact ⟨k, k0, (lanes_lt hs k0).mpr (by omega), ex⟩
  · rintro ⟨k, k0, k1, ex⟩
    have q := (lanes_lt hs k0).mp k1
    have f1 := first_ge (l := l) (r := r) hs
    have m : 0 ≤ s * k := Int.mul_nonneg (by omega) k0
    refine ⟨by omega, by omega, ?_⟩
    rw [ex, Int.add_mul_emod_self_left, fm]
/-! ### ascending lists -/
/-! ### common lanes -/
theorem dvd_of_emod {s x y : Int} (h : x % s = y % s) : s ∣ x - y := by
  refine Int.dvd_of_emod_eq_zero ?_
  rw [Int.sub_emod, h, Int.sub_self, Int.zero_emod]
theorem emod_of_dvd {s x y : Int} (h : s ∣ x - y) : x % s = y % s := by
  obtain ⟨k, hk⟩ := h
  have : x = y + s * k := by omega
  rw [this, Int.add_mul_emod_self_left]
/-! ### bounds by digits -/
theorem log_lt {x : Int} {n : Nat} (h : x.natAbs < 2 ^ n) (hn : 0 < n) : x.natAbs.log2 < n := by
  by_cases hz : x.natAbs = 0
  · rw [hz]; exact hn
  · exact (Nat.log2_lt hz).mpr h
theorem okMul_of {i j : Int} {a b : Nat} (hi : i.natAbs < 2 ^ a) (hj : j.natAbs < 2 ^ b) (ha : 0 < a) (hb : 0 < b) (h : a + b ≤ 1000000) : PL.okMul i j = true := by
  unfold PL.okMul
  have := log_lt hi ha
  have := log_lt hj hb
  exact decide_eq_true (by omega)
theorem okDiv_of {j : Int} {b : Nat} (h0 : j ≠ 0) (hj : j.natAbs < 2 ^ b) (hb : 0 < b) (h : b ≤ 9000) : PL.okDiv j = true := by
  unfold PL.okDiv
  have := log_lt hj hb
  exact decide_eq_true ⟨h0, by omega⟩
end PN
/-! PS: what the defs of guards.py answer. -/
namespace PM
open PySem PySem.Spec PyProof.Rows L2 PL PN
theorem at0 (a : PV) (t : List PV) : atI (a :: t) 0 = some a := by simp [atI, ixN]
theorem at1 (a b : PV) (t : List PV) : atI (a :: b :: t) 1 = some b := by simp [atI, ixN]; rw [if_pos (by omega)]; rfl
theorem at2 (a b c : PV) (t : List PV) : atI (a :: b :: c :: t) 2 = some c := by simp [atI, ixN]; rw [if_pos (by omega)]; rfl
theorem at3 (a b c d : PV) (t : List PV) : atI (a :: b :: c :: d :: t) 3 = some d := by simp [atI, ixN]; rw [if_pos (by omega)]; rfl
local macro_rules | `(tactic| walk_at "ev") => `(tactic| simp only [mOf, endF, start0, gSeq, gNop, gAsg, gRet, gRetO, gAsgO, gDrop, gIf, gOpt, gPar, gPar3, gAug, aName, asNil, asCons, aTup, aLst, setV, setO, eVar, eC, eBin, eUn, eTup, aNil, aCons, oLst, frz, eCall, oCall, avN, avK, permL, lNil, lPv, lSl, tOf, tTru, tNt, tAn, tOrr, eIf, eAn, eOr, eNt, eChain, eCallB, eIxM, gSetIx, getM, pTru, pAdd, pSub, pMul, pFdiv, pMod, pPow, pNeg, pLt, pLe, pGt, pGe, pIs, pIsNot, pAddI, pIx, pLen, pAbs, pMax2, pMin2, Res.bind_ok, Res.bind_ex, Res.bind_stuck, Res.fl_ok, Res.fl_ex, Res.fl_stuck, Res.opt_some, Res.opt_none, lowerA, PL.keyOf, getK, getAll, setAll, setK, distinct, List.map_cons, List.map_nil, List.length_cons, List.length_nil, List.replicate, List.cons_append, List.nil_append, List.append_nil, List.getElem?_cons_zero, List.getElem?_cons_succ, List.getElem?_nil, List.set_cons_zero, List.set_cons_succ, List.filterMap_cons, List.filterMap_nil, Option.bind_some, Option.map_some, Option.elim_some, if_true, if_false, Nat.reduceAdd, Nat.reduceSub, Nat.reduceEqDiff, Nat.reduceLeDiff, ↓reduceIte, Bool.false_eq_true, at0, at1, at2, at3, pEq, pNe, eqB_int, Option.some.injEq, decide_true, decide_false, not_true_eq_false, not_false_eq_true, Bool.and_true, ne_eq, reduceCtorEq, Bool.true_eq_false, Bool.not_true, Bool.not_false])
/-- a guard's tuple -/
abbrev gt (l h s r : Int) : PV := .tup [.int l, .int h, .int s, .int r]
def isGuard (l h s r : Int) : Bool := decide (0 ≤ l ∧ l ≤ h ∧ 0 ≤ r ∧ r < s)
theorem guard_iff {l h s r : Int} : isGuard l h s r = true ↔ 0 ≤ l ∧ l ≤ h ∧ 0 ≤ r ∧ r < s := by simp [isGuard]
end PM
/-! PS2: bezout, meeting, and what the laws draw. -/
namespace PM
open PySem PySem.Spec PyProof.Rows L2 PL PN
local macro_rules | `(tactic| walk_at "ev") => `(tactic| simp only [mOf, endF, start0, gSeq, gNop, gAsg, gRet, gRetO, gAsgO, gDrop, gIf, gOpt, gPar, gPar3, gAug, aName, asNil, asCons, aTup, aLst, setV, setO, eVar, eC, eBin, eUn, eTup, aNil, aCons, oLst, frz, eCall, oCall, avN, avK, permL, lNil, lPv, lSl, tOf, tTru, tNt, tAn, tOrr, eIf, eAn, eOr, eNt, eChain, eCallB, eIxM, gSetIx, getM, pTru, pAdd, pSub, pMul, pFdiv, pMod, pPow, pNeg, pLt, pLe, pGt, pGe, pIs, pIsNot, pAddI, pIx, pLen, pAbs, pMax2, pMin2, Res.bind_ok, Res.bind_ex, Res.bind_stuck, Res.fl_ok, Res.fl_ex, Res.fl_stuck, Res.opt_some, Res.opt_none, lowerA, PL.keyOf, getK, getAll, setAll, setK, distinct, List.map_cons, List.map_nil, List.length_cons, List.length_nil, List.replicate, List.cons_append, List.nil_append, List.append_nil, List.getElem?_cons_zero, List.getElem?_cons_succ, List.getElem?_nil, List.set_cons_zero, List.set_cons_succ, List.filterMap_cons, List.filterMap_nil, Option.bind_some, Option.map_some, Option.elim_some, if_true, if_false, Nat.reduceAdd, Nat.reduceSub, Nat.reduceEqDiff, Nat.reduceLeDiff, ↓reduceIte, Bool.false_eq_true, at0, at1, at2, at3, pEq, pNe, eqB_int, Option.some.injEq, decide_true, decide_false, not_true_eq_false, not_false_eq_true, Bool.and_true, ne_eq, reduceCtorEq, Bool.true_eq_false, Bool.not_true, Bool.not_false])
/-- what holds in the loop of bezout -/
structure BzInv (a b f s x y : Int) : Prop where
  f0 : 0 < f
  s0 : 0 ≤ s
  dv : ∀ d, d ∣ f → d ∣ s → d ∣ a ∧ d ∣ b
  u1 : ∃ u, f = a * x + b * u
  u2 : ∃ u, s = a * y + b * u
  sg : ∃ e X Y : Int, (e = 1 ∨ e = -1) ∧ x = e * X ∧ y = -(e * Y) ∧ 0 ≤ X ∧ 0 ≤ Y ∧ X ≤ b ∧ X * s + Y * f = b
theorem BzInv.next {a b f s x y : Int} (i : BzInv a b f s x y) (hs : 0 < s) : BzInv a b s (f - f / s * s) y (x - f / s * y) := by
  have hm : f - f / s * s = f % s := by rw [Int.emod_def, Int.mul_comm]
  have t0 : 0 ≤ f / s := Int.ediv_nonneg (Int.le_of_lt i.f0) i.s0
  refine ⟨hs, ?_, ?_, i.u2, ?_, ?_⟩
  · rw [hm]; exact Int.emod_nonneg _ (by omega)
  · intro d h1 h2
    refine i.dv d ?_ h1
    have : f = (f - f / s * s) + f / s * s := by omega
    rw [this]
    exact Int.dvd_add h2 ((show d ∣ f / s * s from Int.dvd_trans h1 (Int.dvd_mul_left _ _)))
  · obtain ⟨u, hu⟩ := i.u1
    obtain ⟨v, hv⟩ := i.u2
    refine ⟨u - f / s * v, ?_⟩
    generalize f / s = t at *
    subst hu hv
    grind
  · obtain ⟨e, X, Y, he, hx, hy, hX, hY, hb, hq⟩ := i.sg
    refine ⟨-e, Y, X + f / s * Y, by omega, by grind, ?_, hY, ?_, ?_, ?_⟩
    · generalize f / s = t at *
      subst hx hy
      grind
    · have := Int.mul_nonneg t0 hY; omega
    · have h1 : 0 ≤ X * s := Int.mul_nonneg hX i.s0
      have h2 : Y * 1 ≤ Y * f := Int.mul_le_mul_of_nonneg_left i.f0 hY
      omega
    · generalize f / s = t at *
      grind
end PM
/-! PS3: meeting, met, and what the laws draw. -/
namespace PM
open PySem PySem.Spec PyProof.Rows L2 PL PN
theorem ix30 : ixN 3 0 = some 0 := by decide
theorem ix31 : ixN 3 1 = some 1 := by decide
theorem ix32 : ixN 3 2 = some 2 := by decide
local macro_rules | `(tactic| walk_at "ev") => `(tactic| try simp only [mOf, endF, start0, gSeq, gNop, gAsg, gRet, gRetO, gAsgO, gDrop, gIf, gOpt, gPar, gPar3, gAug, aName, asNil, asCons, aTup, aLst, setV, setO, eVar, eC, eBin, eUn, eTup, aNil, aCons, oLst, frz, eCall, oCall, avN, avK, permL, lNil, lPv, lSl, tOf, tTru, tNt, tAn, tOrr, eIf, eAn, eOr, eNt, eChain, eCallB, eIxM, gSetIx, getM, pTru, pAdd, pSub, pMul, pFdiv, pMod, pPow, pNeg, pLt, pLe, pGt, pGe, pIs, pIsNot, pAddI, pIx, pLen, pAbs, pMax2, pMin2, Res.bind_ok, Res.bind_ex, Res.bind_stuck, Res.fl_ok, Res.fl_ex, Res.fl_stuck, Res.opt_some, Res.opt_none, lowerA, PL.keyOf, getK, getAll, setAll, setK, distinct, List.map_cons, List.map_nil, List.length_cons, List.length_nil, List.replicate, List.cons_append, List.nil_append, List.append_nil, List.getElem?_cons_zero, List.getElem?_cons_succ, List.getElem?_nil, List.set_cons_zero, List.set_cons_succ, List.filterMap_cons, List.filterMap_nil, Option.bind_some, Option.map_some, Option.elim_some, if_true, if_false, Nat.reduceAdd, Nat.reduceSub, Nat.reduceEqDiff, Nat.reduceLeDiff, ↓reduceIte, Bool.false_eq_true, at0, at1, at2, at3, pEq, pNe, eqB_int, Option.some.injEq, decide_true, decide_false, not_true_eq_false, not_false_eq_true, Bool.and_true, ne_eq, reduceCtorEq, Bool.true_eq_false, Bool.not_true, Bool.not_false])
local macro_rules | `(tactic| walk_at "evs") => `(tactic| simp only [*, mOf, endF, start0, gSeq, gNop, gAsg, gRet, gRetO, gAsgO, gDrop, gIf, gOpt, gPar, gPar3, gAug, aName, asNil, asCons, aTup, aLst, setV, setO, eVar, eC, eBin, eUn, eTup, aNil, aCons, oLst, frz, eCall, oCall, avN, avK, permL, lNil, lPv, lSl, tOf, tTru, tNt, tAn, tOrr, eIf, eAn, eOr, eNt, eChain, eCallB, eIxM, gSetIx, getM, pTru, pAdd, pSub, pMul, pFdiv, pMod, pPow, pNeg, pLt, pLe, pGt, pGe, pIs, pIsNot, pAddI, pIx, pLen, pAbs, pMax2, pMin2, Res.bind_ok, Res.bind_ex, Res.bind_stuck, Res.fl_ok, Res.fl_ex, Res.fl_stuck, Res.opt_some, Res.opt_none, lowerA, PL.keyOf, getK, getAll, setAll, setK, distinct, List.map_cons, List.map_nil, List.length_cons, List.length_nil, List.replicate, List.cons_append, List.nil_append, List.append_nil, List.getElem?_cons_zero, List.getElem?_cons_succ, List.getElem?_nil, List.set_cons_zero, List.set_cons_succ, List.filterMap_cons, List.filterMap_nil, Option.bind_some, Option.map_some, Option.elim_some, if_true, if_false, Nat.reduceAdd, Nat.reduceSub, Nat.reduceEqDiff, Nat.reduceLeDiff, ↓reduceIte, Bool.false_eq_true, at0, at1, at2, at3, pEq, pNe, eqB_int, Option.some.injEq, decide_true, decide_false, not_true_eq_false, not_false_eq_true, Bool.and_true, ne_eq, reduceCtorEq, Bool.true_eq_false, Bool.not_true, Bool.not_false, eq_self, not_true_eq_false, not_false_eq_true, ix30, ix31, ix32])
theorem natAbs_ediv_le (a : Int) {g : Int} (hg : 0 < g) : (a / g).natAbs ≤ a.natAbs := by
  rcases Int.le_total 0 a with h | h
  · have h1 := Int.ediv_le_self g h
    have h2 := Int.ediv_nonneg h (Int.le_of_lt hg)
    omega
  · have h1 : a / g ≤ 0 := Int.ediv_le_of_le_mul hg (by omega)
    have h2 : a ≤ a / g := by
      refine (Int.le_ediv_iff_mul_le hg).mpr ?_
      have k : 0 ≤ (-a) * (g - 1) := Int.mul_nonneg (by omega) (by omega)
      have e : (-a) * (g - 1) = a - a * g := by grind
      omega
    omega
/-! ### what the laws draw -/
def Src (n : Nat) (m : MO) : Prop := ∃ a b c : Int, m = .lst [.int a, .int b, .int c] ∧ 0 ≤ a ∧ a.natAbs < 2 ^ 13000 ∧ 0 ≤ b ∧ b < 2305843009213693951 ∧ 0 ≤ c ∧ c ≤ n
theorem Src.mono {n k : Nat} {m : MO} (h : Src n m) (hk : n ≤ k) : Src k m := by
  obtain ⟨a, b, c, h1, h2, h3, h4, h5, h6, h7⟩ := h
  exact ⟨a, b, c, h1, h2, h3, h4, h5, h6, by omega⟩
theorem okPow3 {x : Int} {n : Nat} (h : x.natAbs < 2 ^ n) (hn : n ≤ 300000) (h0 : 0 < n) : okPow x 3 = true := by
  unfold okPow
  have := log_lt h h0
  exact decide_eq_true ⟨by decide, by show (x.natAbs.log2 + 1) * 3 ≤ 1000000; omega⟩
def mix1 (b c : Int) : Int := ((b + 179424673 * c) ^ (Int.toNat 3)).fmod 162259276829213363391578010288127
def mix2 (b c : Int) : Int := ((mix1 b c + 86028157 * c) ^ (Int.toNat 3)).fmod 170141183460469231731687303715884105727
theorem e_draw0 (a b c many : Int) (ha : decide (a > 0) = true) (hz : (many = 0) = False) (hd : okDiv many = true) :
    m__law_draw [.bor 0, .val (.int many)] [.lst [.int a, .int b, .int c]] = .ok (.int (a.fmod many)) [.lst [.int (a.fdiv many), .int b, .int c]] := by
  unfold m__law_draw g__law_draw
  iterate 6 (walk_at "ev"; try walk_at "evs")
theorem e_draw1 (a b c many : Int) (ha : decide (a > 0) = false) (hz : (many = 0) = False) (k1 : okMul 179424673 (c + 1) = true) (k2 : okPow (b + 179424673 * (c + 1)) 3 = true) (z1 : ((162259276829213363391578010288127 : Int) = 0) = False) (k3 : okMul 86028157 (c + 1) = true)
    (k4 : okPow (mix1 b (c + 1) + 86028157 * (c + 1)) 3 = true) (z2 : ((170141183460469231731687303715884105727 : Int) = 0) = False) (k5 : okDiv 2097152 = true) (e1 : ((b + 179424673 * (c + 1)) ^ (Int.toNat 3)).fmod 162259276829213363391578010288127 = mix1 b (c + 1)) (e2 : ((mix1 b (c + 1) + 86028157 * (c + 1)) ^ (Int.toNat 3)).fmod 170141183460469231731687303715884105727 = mix2 b (c + 1)) :
    m__law_draw [.bor 0, .val (.int many)] [.lst [.int a, .int b, .int c]] = .ok (.int (((mix2 b (c + 1)).fdiv 2097152).fmod many)) [.lst [.int a, .int b, .int (c + 1)]] := by
  unfold m__law_draw g__law_draw
  iterate 10 (walk_at "ev"; try walk_at "evs")
theorem e_draw {n : Nat} {m : MO} (h : Src n m) (hn : n < 2 ^ 60) (many : Int) (h0 : 0 < many) (hb : many.natAbs < 2 ^ 8000) :
    ∃ d m', m__law_draw [.bor 0, .val (.int many)] [m] = .ok (.int d) [m'] ∧ 0 ≤ d ∧ d < many ∧ Src (n + 1) m' := by
  obtain ⟨a, b, c, rfl, a0, ab, b0, bb, c0, cb⟩ := h
  have hd : okDiv many = true := okDiv_of (by omega) hb (by decide) (by decide)
  by_cases ha : 0 < a
  · refine ⟨_, _, e_draw0 a b c many (decide_eq_true ha) (by simp; omega) hd, ?_⟩
    rw [Int.fmod_eq_emod_of_nonneg _ (by omega), Int.fdiv_eq_ediv_of_nonneg _ (by omega)]
    refine ⟨Int.emod_nonneg _ (by omega), Int.emod_lt_of_pos _ h0, a / many, b, c, rfl, Int.ediv_nonneg a0 (by omega), ?_, b0, bb, c0, by omega⟩
    have := natAbs_ediv_le a h0
    omega
  · have e1 : 0 ≤ mix1 b (c + 1) ∧ mix1 b (c + 1) < 162259276829213363391578010288127 := ⟨Int.fmod_nonneg_of_pos _ (by decide), Int.fmod_lt_of_pos _ (by decide)⟩
    refine ⟨_, _, e_draw1 a b c many (decide_eq_false ha) (by simp; omega) ?_ ?_ (by simp) ?_ ?_ (by simp) (by decide +kernel) rfl rfl, ?_⟩
    · exact okMul_of (i := 179424673) (j := c + 1) (a := 30) (b := 70) (by decide) (by omega) (by decide) (by decide) (by decide)
    · exact okPow3 (n := 200) (by omega) (by decide) (by decide)
    · exact okMul_of (i := 86028157) (j := c + 1) (a := 30) (b := 70) (by decide) (by omega) (by decide) (by decide) (by decide)
    · exact okPow3 (n := 200) (by omega) (by decide) (by decide)
    · rw [Int.fmod_eq_emod_of_nonneg _ (by omega)]
      exact ⟨Int.emod_nonneg _ (by omega), Int.emod_lt_of_pos _ h0, a, b, c + 1, rfl, a0, ab, b0, bb, by omega, by omega⟩
end PM
/-! PS4: the source of what the laws draw. -/
namespace PM
open PySem PySem.Spec PyProof.Rows L2 PL PN
local macro_rules | `(tactic| walk_at "ev") => `(tactic| try simp only [mOf, endF, start0, gSeq, gNop, gAsg, gRet, gRetO, gAsgO, gDrop, gIf, gOpt, gPar, gPar3, gAug, aName, asNil, asCons, aTup, aLst, setV, setO, eVar, eC, eBin, eUn, eTup, aNil, aCons, oLst, frz, eCall, oCall, avN, avK, permL, lNil, lPv, lSl, tOf, tTru, tNt, tAn, tOrr, eIf, eAn, eOr, eNt, eChain, eCallB, eIxM, gSetIx, getM, pTru, pAdd, pSub, pMul, pFdiv, pMod, pPow, pNeg, pLt, pLe, pGt, pGe, pIs, pIsNot, pAddI, pIx, pLen, pAbs, pMax2, pMin2, Res.bind_ok, Res.bind_ex, Res.bind_stuck, Res.fl_ok, Res.fl_ex, Res.fl_stuck, Res.opt_some, Res.opt_none, lowerA, PL.keyOf, getK, getAll, setAll, setK, distinct, List.map_cons, List.map_nil, List.length_cons, List.length_nil, List.replicate, List.cons_append, List.nil_append, List.append_nil, List.getElem?_cons_zero, List.getElem?_cons_succ, List.getElem?_nil, List.set_cons_zero, List.set_cons_succ, List.filterMap_cons, List.filterMap_nil, Option.bind_some, Option.map_some, Option.elim_some, if_true, if_false, Nat.reduceAdd, Nat.reduceSub, Nat.reduceEqDiff, Nat.reduceLeDiff, ↓reduceIte, Bool.false_eq_true, at0, at1, at2, at3, pEq, pNe, eqB_int, Option.some.injEq, decide_true, decide_false, not_true_eq_false, not_false_eq_true, Bool.and_true, ne_eq, reduceCtorEq, Bool.true_eq_false, Bool.not_true, Bool.not_false])
local macro_rules | `(tactic| walk_at "evs") => `(tactic| simp only [*, mOf, endF, start0, gSeq, gNop, gAsg, gRet, gRetO, gAsgO, gDrop, gIf, gOpt, gPar, gPar3, gAug, aName, asNil, asCons, aTup, aLst, setV, setO, eVar, eC, eBin, eUn, eTup, aNil, aCons, oLst, frz, eCall, oCall, avN, avK, permL, lNil, lPv, lSl, tOf, tTru, tNt, tAn, tOrr, eIf, eAn, eOr, eNt, eChain, eCallB, eIxM, gSetIx, getM, pTru, pAdd, pSub, pMul, pFdiv, pMod, pPow, pNeg, pLt, pLe, pGt, pGe, pIs, pIsNot, pAddI, pIx, pLen, pAbs, pMax2, pMin2, Res.bind_ok, Res.bind_ex, Res.bind_stuck, Res.fl_ok, Res.fl_ex, Res.fl_stuck, Res.opt_some, Res.opt_none, lowerA, PL.keyOf, getK, getAll, setAll, setK, distinct, List.map_cons, List.map_nil, List.length_cons, List.length_nil, List.replicate, List.cons_append, List.nil_append, List.append_nil, List.getElem?_cons_zero, List.getElem?_cons_succ, List.getElem?_nil, List.set_cons_zero, List.set_cons_succ, List.filterMap_cons, List.filterMap_nil, Option.bind_some, Option.map_some, Option.elim_some, if_true, if_false, Nat.reduceAdd, Nat.reduceSub, Nat.reduceEqDiff, Nat.reduceLeDiff, ↓reduceIte, Bool.false_eq_true, at0, at1, at2, at3, pEq, pNe, eqB_int, Option.some.injEq, decide_true, decide_false, not_true_eq_false, not_false_eq_true, Bool.and_true, ne_eq, reduceCtorEq, Bool.true_eq_false, Bool.not_true, Bool.not_false, eq_self, not_true_eq_false, not_false_eq_true, ix30, ix31, ix32])
def absI (x : Int) : Int := if x < 0 then -x else x
end PM
/-! PLE: more about the mirrors' words. -/
namespace PL
open PySem PySem.Spec PyProof.Rows L2
theorem Rk.same {p : PV} {n k : Nat} (h : Rk p n k) (hn : n ≤ 16777216) (hk : k ≤ 30) : ∃ x, pRepr [p] = some (.str x) ∧ pEqB (.str x) (.str x) = some true := by
  obtain ⟨x, hx⟩ := h.repr hn hk
  refine ⟨x, hx, ?_⟩
  obtain ⟨d, h1, h2, h3, h4, h5, h6, h7⟩ := h.ex
  have e : x = d.shown := by
    unfold pRepr at hx
    simp only [h1] at hx
    split at hx
    · simp at hx; exact hx.symm
    · cases hx
  have hs : PyData.strOk x = true := by rw [e]; exact h7
  unfold pEqB
  simp [toD, SeqAt.shaped, PyData.canLay0, PyData.depth, PyData.eqv, hs]
theorem atI_at {l : List PV} {i : Nat} {p : PV} (h : l[i]? = some p) : atI l i = some p := by
  have hi := (List.getElem?_eq_some_iff.mp h).1
  simp only [atI, ixN]
  rw [if_pos (by omega)]
  simp only [if_pos (show (i : Int) < (l.length : Int) by omega), Option.bind_some, Int.toNat_natCast, h]
end PL
/-! PQN: lengths without conflicts: the plain law. -/
namespace PN
/-- how many neighbours of a row have different banks -/
def spread (b l : Int) : Int := b / (Int.gcd l b : Int)
def fr (w b l : Int) : Bool := decide (w ≤ spread b l)
end PN
/-! PQ: pools, and what banks.py answers of lengths. -/
namespace PM
open PySem PySem.Spec PyProof.Rows L2 PL PN
local macro_rules | `(tactic| walk_at "ev") => `(tactic| try simp only [mOf, endF, start0, gSeq, gNop, gAsg, gRet, gRetO, gAsgO, gDrop, gIf, gOpt, gPar, gPar3, gAug, aName, asNil, asCons, aTup, aLst, setV, setO, eVar, eC, eBin, eUn, eTup, aNil, aCons, oLst, frz, eCall, oCall, avN, avK, permL, lNil, lPv, lSl, tOf, tTru, tNt, tAn, tOrr, eIf, eAn, eOr, eNt, eChain, eCallB, eIxM, gSetIx, getM, pTru, pAdd, pSub, pMul, pFdiv, pMod, pPow, pNeg, pLt, pLe, pGt, pGe, pIs, pIsNot, pAddI, pIx, pLen, pAbs, pMax2, pMin2, Res.bind_ok, Res.bind_ex, Res.bind_stuck, Res.fl_ok, Res.fl_ex, Res.fl_stuck, Res.opt_some, Res.opt_none, lowerA, PL.keyOf, getK, getAll, setAll, setK, distinct, List.map_cons, List.map_nil, List.length_cons, List.length_nil, List.replicate, List.cons_append, List.nil_append, List.append_nil, List.getElem?_cons_zero, List.getElem?_cons_succ, List.getElem?_nil, List.set_cons_zero, List.set_cons_succ, List.filterMap_cons, List.filterMap_nil, Option.bind_some, Option.map_some, Option.elim_some, if_true, if_false, Nat.reduceAdd, Nat.reduceSub, Nat.reduceEqDiff, Nat.reduceLeDiff, ↓reduceIte, Bool.false_eq_true, at0, at1, at2, at3, pEq, pNe, eqB_int, Option.some.injEq, decide_true, decide_false, not_true_eq_false, not_false_eq_true, Bool.and_true, ne_eq, reduceCtorEq, Bool.true_eq_false, Bool.not_true, Bool.not_false, frz, noEx, wipeS, wipeR, backS, backR, keepV, oComp, gFor, iAny, iRange1, iRange2, iRange3, iRangeW1, iRangeW2, eCallQ, oRg2, oRg1, oRg, tYesD, pIn, pNotIn, eSl, pNo, pSo, forL_nil, gApp, gParO, List.not_mem_nil, List.not_mem_nil])
local macro_rules | `(tactic| walk_at "evs") => `(tactic| simp only [*, mOf, endF, start0, gSeq, gNop, gAsg, gRet, gRetO, gAsgO, gDrop, gIf, gOpt, gPar, gPar3, gAug, aName, asNil, asCons, aTup, aLst, setV, setO, eVar, eC, eBin, eUn, eTup, aNil, aCons, oLst, frz, eCall, oCall, avN, avK, permL, lNil, lPv, lSl, tOf, tTru, tNt, tAn, tOrr, eIf, eAn, eOr, eNt, eChain, eCallB, eIxM, gSetIx, getM, pTru, pAdd, pSub, pMul, pFdiv, pMod, pPow, pNeg, pLt, pLe, pGt, pGe, pIs, pIsNot, pAddI, pIx, pLen, pAbs, pMax2, pMin2, Res.bind_ok, Res.bind_ex, Res.bind_stuck, Res.fl_ok, Res.fl_ex, Res.fl_stuck, Res.opt_some, Res.opt_none, lowerA, PL.keyOf, getK, getAll, setAll, setK, distinct, List.map_cons, List.map_nil, List.length_cons, List.length_nil, List.replicate, List.cons_append, List.nil_append, List.append_nil, List.getElem?_cons_zero, List.getElem?_cons_succ, List.getElem?_nil, List.set_cons_zero, List.set_cons_succ, List.filterMap_cons, List.filterMap_nil, Option.bind_some, Option.map_some, Option.elim_some, if_true, if_false, Nat.reduceAdd, Nat.reduceSub, Nat.reduceEqDiff, Nat.reduceLeDiff, ↓reduceIte, Bool.false_eq_true, at0, at1, at2, at3, pEq, pNe, eqB_int, Option.some.injEq, decide_true, decide_false, not_true_eq_false, not_false_eq_true, Bool.and_true, ne_eq, reduceCtorEq, Bool.true_eq_false, Bool.not_true, Bool.not_false, frz, noEx, wipeS, wipeR, backS, backR, keepV, oComp, gFor, iAny, iRange1, iRange2, iRange3, iRangeW1, iRangeW2, eCallQ, oRg2, oRg1, oRg, tYesD, pIn, pNotIn, eSl, pNo, pSo, forL_nil, gApp, gParO, List.not_mem_nil, List.not_mem_nil, eq_self, not_true_eq_false, not_false_eq_true, ix30, ix31, ix32, Bool.and_self, and_self, and_true, true_and])
theorem seq_nx {f g : Stt → Fl} {s s1 : Stt} (h : f s = .nx s1) : gSeq f g s = g s1 := by simp only [gSeq, h]
theorem seq_rt {f g : Stt → Fl} {s s1 : Stt} {v : PV} (h : f s = .rt v s1) : gSeq f g s = .rt v s1 := by simp only [gSeq, h]
/-! ### pools -/
def Pool (n : Nat) (m : MO) : Prop := ∃ a b c : Int, m = .lst [.int a, .int b, .int c] ∧ 0 ≤ a ∧ 0 ≤ b ∧ b < 2 ^ 100 ∧ 0 ≤ c ∧ c ≤ n
theorem Pool.mono {n k : Nat} {m : MO} (h : Pool n m) (hk : n ≤ k) : Pool k m := by
  obtain ⟨a, b, c, h1, h2, h3, h4, h5, h6⟩ := h
  exact ⟨a, b, c, h1, h2, h3, h4, h5, by omega⟩
/-! ### checks -/
/-! ### spreads -/
end PM
/-! PWN: waves of lanes: the plain law. -/
namespace PN
def lastOf (l h s r : Int) : Int := firstOf l s r + s * (lanesOf l h s r - 1)
/-- two numbers of one remainder, less than the step apart -/
theorem same_of {s x y : Int} (hs : 0 < s) (h : x % s = y % s) (h1 : x - y < s) (h2 : y - x < s) : x = y := by
  obtain ⟨k, hk⟩ := dvd_of_emod h
  have : k = 0 := by
    rcases Int.lt_trichotomy k 0 with z | z | z
    · have : s * k ≤ s * (-1) := Int.mul_le_mul_of_nonneg_left (by omega) (by omega)
      omega
    · exact z
    · have : s * 1 ≤ s * k := Int.mul_le_mul_of_nonneg_left (by omega) (by omega)
      omega
  subst this
  omega
end PN
/-! PW: kernels made, and what waves.py answers. -/
namespace PM
open PySem PySem.Spec PyProof.Rows L2 PL PN
local macro_rules | `(tactic| walk_at "ev") => `(tactic| try simp only [mOf, endF, start0, gSeq, gNop, gAsg, gRet, gRetO, gAsgO, gDrop, gIf, gOpt, gPar, gPar3, gAug, aName, asNil, asCons, aTup, aLst, setV, setO, eVar, eC, eBin, eUn, eTup, aNil, aCons, oLst, frz, eCall, oCall, avN, avK, permL, lNil, lPv, lSl, tOf, tTru, tNt, tAn, tOrr, eIf, eAn, eOr, eNt, eChain, eCallB, eIxM, gSetIx, getM, pTru, pAdd, pSub, pMul, pFdiv, pMod, pPow, pNeg, pLt, pLe, pGt, pGe, pIs, pIsNot, pAddI, pIx, pLen, pAbs, pMax2, pMin2, Res.bind_ok, Res.bind_ex, Res.bind_stuck, Res.fl_ok, Res.fl_ex, Res.fl_stuck, Res.opt_some, Res.opt_none, lowerA, PL.keyOf, getK, getAll, setAll, setK, distinct, List.map_cons, List.map_nil, List.length_cons, List.length_nil, List.replicate, List.cons_append, List.nil_append, List.append_nil, List.getElem?_cons_zero, List.getElem?_cons_succ, List.getElem?_nil, List.set_cons_zero, List.set_cons_succ, List.filterMap_cons, List.filterMap_nil, Option.bind_some, Option.map_some, Option.elim_some, if_true, if_false, Nat.reduceAdd, Nat.reduceSub, Nat.reduceEqDiff, Nat.reduceLeDiff, ↓reduceIte, Bool.false_eq_true, at0, at1, at2, at3, pEq, pNe, eqB_int, Option.some.injEq, decide_true, decide_false, not_true_eq_false, not_false_eq_true, Bool.and_true, ne_eq, reduceCtorEq, Bool.true_eq_false, Bool.not_true, Bool.not_false, frz, noEx, wipeS, wipeR, backS, backR, keepV, oComp, gFor, iAny, iRange1, iRange2, iRange3, iRangeW1, iRangeW2, eCallQ, oRgW2, oRgW, iEnumQ, eDct, iTxt, eFld, eMake, gSetFld, eFldM, eTupV, putP, eLenSet, gFrz, Nat.reduceLT, oRg2, oRg1, oRg, tYesD, pIn, pNotIn, eSl, pNo, pSo, forL_nil, gApp, gParO, List.not_mem_nil, List.not_mem_nil])
local macro_rules | `(tactic| walk_at "evs") => `(tactic| simp only [*, mOf, endF, start0, gSeq, gNop, gAsg, gRet, gRetO, gAsgO, gDrop, gIf, gOpt, gPar, gPar3, gAug, aName, asNil, asCons, aTup, aLst, setV, setO, eVar, eC, eBin, eUn, eTup, aNil, aCons, oLst, frz, eCall, oCall, avN, avK, permL, lNil, lPv, lSl, tOf, tTru, tNt, tAn, tOrr, eIf, eAn, eOr, eNt, eChain, eCallB, eIxM, gSetIx, getM, pTru, pAdd, pSub, pMul, pFdiv, pMod, pPow, pNeg, pLt, pLe, pGt, pGe, pIs, pIsNot, pAddI, pIx, pLen, pAbs, pMax2, pMin2, Res.bind_ok, Res.bind_ex, Res.bind_stuck, Res.fl_ok, Res.fl_ex, Res.fl_stuck, Res.opt_some, Res.opt_none, lowerA, PL.keyOf, getK, getAll, setAll, setK, distinct, List.map_cons, List.map_nil, List.length_cons, List.length_nil, List.replicate, List.cons_append, List.nil_append, List.append_nil, List.getElem?_cons_zero, List.getElem?_cons_succ, List.getElem?_nil, List.set_cons_zero, List.set_cons_succ, List.filterMap_cons, List.filterMap_nil, Option.bind_some, Option.map_some, Option.elim_some, if_true, if_false, Nat.reduceAdd, Nat.reduceSub, Nat.reduceEqDiff, Nat.reduceLeDiff, ↓reduceIte, Bool.false_eq_true, at0, at1, at2, at3, pEq, pNe, eqB_int, Option.some.injEq, decide_true, decide_false, not_true_eq_false, not_false_eq_true, Bool.and_true, ne_eq, reduceCtorEq, Bool.true_eq_false, Bool.not_true, Bool.not_false, frz, noEx, wipeS, wipeR, backS, backR, keepV, oComp, gFor, iAny, iRange1, iRange2, iRange3, iRangeW1, iRangeW2, eCallQ, oRgW2, oRgW, iEnumQ, eDct, iTxt, eFld, eMake, gSetFld, eFldM, eTupV, putP, eLenSet, gFrz, Nat.reduceLT, oRg2, oRg1, oRg, tYesD, pIn, pNotIn, eSl, pNo, pSo, forL_nil, gApp, gParO, List.not_mem_nil, List.not_mem_nil, eq_self, not_true_eq_false, not_false_eq_true, ix30, ix31, ix32, Bool.and_self, and_self, and_true, true_and])
abbrev letters : Str := "abcdefghijklmnopqrstuvwxyz"
/-- a name of an array -/
structure ArrN (z : Str) : Prop where
  l0 : 1 ≤ z.length
  l1 : z.length ≤ 8
  sg : ∀ c ∈ z.cps.toList, c ∈ letters.cps.toList
abbrev kern (n : Int) (sts bars : List PV) : PV := .ins "Kernel" [("lane_count", .int n), ("kept_statements", .tup sts), ("kept_barriers", .tup bars)]
end PM
/-! PW2: what waves.py answers of a kernel. -/
namespace PM
open PySem PySem.Spec PyProof.Rows L2 PL PN
local macro_rules | `(tactic| walk_at "ev") => `(tactic| try simp only [mOf, endF, start0, gSeq, gNop, gAsg, gRet, gRetO, gAsgO, gDrop, gIf, gOpt, gPar, gPar3, gAug, aName, asNil, asCons, aTup, aLst, setV, setO, eVar, eC, eBin, eUn, eTup, aNil, aCons, oLst, frz, eCall, oCall, avN, avK, permL, lNil, lPv, lSl, tOf, tTru, tNt, tAn, tOrr, eIf, eAn, eOr, eNt, eChain, eCallB, eIxM, gSetIx, getM, pTru, pAdd, pSub, pMul, pFdiv, pMod, pPow, pNeg, pLt, pLe, pGt, pGe, pIs, pIsNot, pAddI, pIx, pLen, pAbs, pMax2, pMin2, Res.bind_ok, Res.bind_ex, Res.bind_stuck, Res.fl_ok, Res.fl_ex, Res.fl_stuck, Res.opt_some, Res.opt_none, lowerA, PL.keyOf, getK, getAll, setAll, setK, distinct, List.map_cons, List.map_nil, List.length_cons, List.length_nil, List.replicate, List.cons_append, List.nil_append, List.append_nil, List.getElem?_cons_zero, List.getElem?_cons_succ, List.getElem?_nil, List.set_cons_zero, List.set_cons_succ, List.filterMap_cons, List.filterMap_nil, Option.bind_some, Option.map_some, Option.elim_some, if_true, if_false, Nat.reduceAdd, Nat.reduceSub, Nat.reduceEqDiff, Nat.reduceLeDiff, ↓reduceIte, Bool.false_eq_true, at0, at1, at2, at3, pEq, pNe, eqB_int, Option.some.injEq, decide_true, decide_false, not_true_eq_false, not_false_eq_true, Bool.and_true, ne_eq, reduceCtorEq, Bool.true_eq_false, Bool.not_true, Bool.not_false, frz, noEx, wipeS, wipeR, backS, backR, keepV, oComp, gFor, iAny, iRange1, iRange2, iRange3, iRangeW1, iRangeW2, eCallQ, oRgW2, oRgW, pInt1, iEnumQ, eDct, iTxt, eFld, eMake, gSetFld, eFldM, eTupV, putP, eLenSet, gFrz, Nat.reduceLT, oRg2, oRg1, oRg, tYesD, pIn, pNotIn, eSl, pNo, pSo, forL_nil, gApp, gParO, List.not_mem_nil, List.not_mem_nil])
local macro_rules | `(tactic| walk_at "evs") => `(tactic| simp only [*, mOf, endF, start0, gSeq, gNop, gAsg, gRet, gRetO, gAsgO, gDrop, gIf, gOpt, gPar, gPar3, gAug, aName, asNil, asCons, aTup, aLst, setV, setO, eVar, eC, eBin, eUn, eTup, aNil, aCons, oLst, frz, eCall, oCall, avN, avK, permL, lNil, lPv, lSl, tOf, tTru, tNt, tAn, tOrr, eIf, eAn, eOr, eNt, eChain, eCallB, eIxM, gSetIx, getM, pTru, pAdd, pSub, pMul, pFdiv, pMod, pPow, pNeg, pLt, pLe, pGt, pGe, pIs, pIsNot, pAddI, pIx, pLen, pAbs, pMax2, pMin2, Res.bind_ok, Res.bind_ex, Res.bind_stuck, Res.fl_ok, Res.fl_ex, Res.fl_stuck, Res.opt_some, Res.opt_none, lowerA, PL.keyOf, getK, getAll, setAll, setK, distinct, List.map_cons, List.map_nil, List.length_cons, List.length_nil, List.replicate, List.cons_append, List.nil_append, List.append_nil, List.getElem?_cons_zero, List.getElem?_cons_succ, List.getElem?_nil, List.set_cons_zero, List.set_cons_succ, List.filterMap_cons, List.filterMap_nil, Option.bind_some, Option.map_some, Option.elim_some, if_true, if_false, Nat.reduceAdd, Nat.reduceSub, Nat.reduceEqDiff, Nat.reduceLeDiff, ↓reduceIte, Bool.false_eq_true, at0, at1, at2, at3, pEq, pNe, eqB_int, Option.some.injEq, decide_true, decide_false, not_true_eq_false, not_false_eq_true, Bool.and_true, ne_eq, reduceCtorEq, Bool.true_eq_false, Bool.not_true, Bool.not_false, frz, noEx, wipeS, wipeR, backS, backR, keepV, oComp, gFor, iAny, iRange1, iRange2, iRange3, iRangeW1, iRangeW2, eCallQ, oRgW2, oRgW, pInt1, iEnumQ, eDct, iTxt, eFld, eMake, gSetFld, eFldM, eTupV, putP, eLenSet, gFrz, Nat.reduceLT, oRg2, oRg1, oRg, tYesD, pIn, pNotIn, eSl, pNo, pSo, forL_nil, gApp, gParO, List.not_mem_nil, List.not_mem_nil, eq_self, not_true_eq_false, not_false_eq_true, ix30, ix31, ix32, Bool.and_self, and_self, and_true, true_and])
/-- a guard of numbers that are not too great -/
structure Gs (l h s r : Int) : Prop where
  l0 : 0 ≤ l
  lh : l ≤ h
  hb : h < 2 ^ 200
  r0 : 0 ≤ r
  r1 : r < s
  sb : s < 2 ^ 200
theorem Gs.s0 {l h s r : Int} (g : Gs l h s r) : 0 < s := by have := g.r0; have := g.r1; omega
end PM
/-! PLN: lines that lanes touch, wave by wave: the plain law. -/
namespace PN
/-! ### lines -/
def cellL (a b z x : Int) : Int := (a * x + b) / z
end PN
/-! PLN2: sums over waves, floors counted. -/
namespace PN
/-! ### floors counted -/
end PN
/-! PLN3: the lines of all waves, by the first and the last lane of each. -/
namespace PN
def prog (x s : Int) : Nat → List Int
  | 0 => []
  | n + 1 => x :: prog (x + s) s n
/-- how far apart the lines of the last and the first lane of a wave are -/
def DW (l h s r W a b z j : Int) : Int := cellL a b z (lastOf (max l (W * j)) (min h (W * j + W)) s r) - cellL a b z (firstOf (max l (W * j)) s r)
/-! ### waves that begin alike -/
end PN
/-! PLW: what lines.py answers. -/
namespace PM
open PySem PySem.Spec PyProof.Rows L2 PL PN
local macro_rules | `(tactic| walk_at "ev") => `(tactic| try simp only [mOf, endF, start0, gSeq, gNop, gAsg, gRet, gRetO, gAsgO, gDrop, gIf, gOpt, gPar, gPar3, gAug, aName, asNil, asCons, aTup, aLst, setV, setO, eVar, eC, eBin, eUn, eTup, aNil, aCons, oLst, frz, eCall, oCall, avN, avK, permL, lNil, lPv, lSl, tOf, tTru, tNt, tAn, tOrr, eIf, eAn, eOr, eNt, eChain, eCallB, eIxM, gSetIx, getM, pTru, pAdd, pSub, pMul, pFdiv, pMod, pPow, pNeg, pLt, pLe, pGt, pGe, pIs, pIsNot, pAddI, pIx, pLen, pAbs, pMax2, pMin2, Res.bind_ok, Res.bind_ex, Res.bind_stuck, Res.fl_ok, Res.fl_ex, Res.fl_stuck, Res.opt_some, Res.opt_none, lowerA, PL.keyOf, getK, getAll, setAll, setK, distinct, List.map_cons, List.map_nil, List.length_cons, List.length_nil, List.replicate, List.cons_append, List.nil_append, List.append_nil, List.getElem?_cons_zero, List.getElem?_cons_succ, List.getElem?_nil, List.set_cons_zero, List.set_cons_succ, List.filterMap_cons, List.filterMap_nil, Option.bind_some, Option.map_some, Option.elim_some, if_true, if_false, Nat.reduceAdd, Nat.reduceSub, Nat.reduceEqDiff, Nat.reduceLeDiff, ↓reduceIte, Bool.false_eq_true, at0, at1, at2, at3, pEq, pNe, eqB_int, Option.some.injEq, decide_true, decide_false, not_true_eq_false, not_false_eq_true, Bool.and_true, ne_eq, reduceCtorEq, Bool.true_eq_false, Bool.not_true, Bool.not_false, frz, noEx, wipeS, wipeR, backS, backR, keepV, oComp, gFor, iAny, iRange1, iRange2, iRange3, iRangeW1, iRangeW2, eCallQ, oRgW2, oRgW, pInt1, iEnumQ, eDct, iTxt, eFld, eMake, gSetFld, eFldM, eTupV, putP, eLenSet, gFrz, Nat.reduceLT, oRg2, oRg1, oRg, tYesD, pIn, pNotIn, eSl, pNo, pSo, forL_nil, gApp, gParO, List.not_mem_nil, List.not_mem_nil])
local macro_rules | `(tactic| walk_at "evs") => `(tactic| simp only [*, mOf, endF, start0, gSeq, gNop, gAsg, gRet, gRetO, gAsgO, gDrop, gIf, gOpt, gPar, gPar3, gAug, aName, asNil, asCons, aTup, aLst, setV, setO, eVar, eC, eBin, eUn, eTup, aNil, aCons, oLst, frz, eCall, oCall, avN, avK, permL, lNil, lPv, lSl, tOf, tTru, tNt, tAn, tOrr, eIf, eAn, eOr, eNt, eChain, eCallB, eIxM, gSetIx, getM, pTru, pAdd, pSub, pMul, pFdiv, pMod, pPow, pNeg, pLt, pLe, pGt, pGe, pIs, pIsNot, pAddI, pIx, pLen, pAbs, pMax2, pMin2, Res.bind_ok, Res.bind_ex, Res.bind_stuck, Res.fl_ok, Res.fl_ex, Res.fl_stuck, Res.opt_some, Res.opt_none, lowerA, PL.keyOf, getK, getAll, setAll, setK, distinct, List.map_cons, List.map_nil, List.length_cons, List.length_nil, List.replicate, List.cons_append, List.nil_append, List.append_nil, List.getElem?_cons_zero, List.getElem?_cons_succ, List.getElem?_nil, List.set_cons_zero, List.set_cons_succ, List.filterMap_cons, List.filterMap_nil, Option.bind_some, Option.map_some, Option.elim_some, if_true, if_false, Nat.reduceAdd, Nat.reduceSub, Nat.reduceEqDiff, Nat.reduceLeDiff, ↓reduceIte, Bool.false_eq_true, at0, at1, at2, at3, pEq, pNe, eqB_int, Option.some.injEq, decide_true, decide_false, not_true_eq_false, not_false_eq_true, Bool.and_true, ne_eq, reduceCtorEq, Bool.true_eq_false, Bool.not_true, Bool.not_false, frz, noEx, wipeS, wipeR, backS, backR, keepV, oComp, gFor, iAny, iRange1, iRange2, iRange3, iRangeW1, iRangeW2, eCallQ, oRgW2, oRgW, pInt1, iEnumQ, eDct, iTxt, eFld, eMake, gSetFld, eFldM, eTupV, putP, eLenSet, gFrz, Nat.reduceLT, oRg2, oRg1, oRg, tYesD, pIn, pNotIn, eSl, pNo, pSo, forL_nil, gApp, gParO, List.not_mem_nil, List.not_mem_nil, eq_self, not_true_eq_false, not_false_eq_true, ix30, ix31, ix32, Bool.and_self, and_self, and_true, true_and])
end PM
/-! PLW2: the accesses of a kernel of one put; waves in groups. -/
namespace PM
open PySem PySem.Spec PyProof.Rows L2 PL PN
local macro_rules | `(tactic| walk_at "ev") => `(tactic| try simp only [mOf, endF, start0, gSeq, gNop, gAsg, gRet, gRetO, gAsgO, gDrop, gIf, gOpt, gPar, gPar3, gAug, aName, asNil, asCons, aTup, aLst, setV, setO, eVar, eC, eBin, eUn, eTup, aNil, aCons, oLst, frz, eCall, oCall, avN, avK, permL, lNil, lPv, lSl, tOf, tTru, tNt, tAn, tOrr, eIf, eAn, eOr, eNt, eChain, eCallB, eIxM, gSetIx, getM, pTru, pAdd, pSub, pMul, pFdiv, pMod, pPow, pNeg, pLt, pLe, pGt, pGe, pIs, pIsNot, pAddI, pIx, pLen, pAbs, pMax2, pMin2, Res.bind_ok, Res.bind_ex, Res.bind_stuck, Res.fl_ok, Res.fl_ex, Res.fl_stuck, Res.opt_some, Res.opt_none, lowerA, PL.keyOf, getK, getAll, setAll, setK, distinct, List.map_cons, List.map_nil, List.length_cons, List.length_nil, List.replicate, List.cons_append, List.nil_append, List.append_nil, List.getElem?_cons_zero, List.getElem?_cons_succ, List.getElem?_nil, List.set_cons_zero, List.set_cons_succ, List.filterMap_cons, List.filterMap_nil, Option.bind_some, Option.map_some, Option.elim_some, if_true, if_false, Nat.reduceAdd, Nat.reduceSub, Nat.reduceEqDiff, Nat.reduceLeDiff, ↓reduceIte, Bool.false_eq_true, at0, at1, at2, at3, pEq, pNe, eqB_int, Option.some.injEq, decide_true, decide_false, not_true_eq_false, not_false_eq_true, Bool.and_true, ne_eq, reduceCtorEq, Bool.true_eq_false, Bool.not_true, Bool.not_false, frz, noEx, wipeS, wipeR, backS, backR, keepV, oComp, gFor, iAny, iRange1, iRange2, iRange3, iRangeW1, iRangeW2, eCallQ, oRgW2, oRgW, pInt1, iEnumQ, eDct, iTxt, eFld, eMake, gSetFld, eFldM, eTupV, putP, eLenSet, gFrz, Nat.reduceLT, oRg2, oRg1, oRg, tYesD, pIn, pNotIn, eSl, pNo, pSo, forL_nil, gApp, gParO, List.not_mem_nil, List.not_mem_nil])
local macro_rules | `(tactic| walk_at "evs") => `(tactic| simp only [*, mOf, endF, start0, gSeq, gNop, gAsg, gRet, gRetO, gAsgO, gDrop, gIf, gOpt, gPar, gPar3, gAug, aName, asNil, asCons, aTup, aLst, setV, setO, eVar, eC, eBin, eUn, eTup, aNil, aCons, oLst, frz, eCall, oCall, avN, avK, permL, lNil, lPv, lSl, tOf, tTru, tNt, tAn, tOrr, eIf, eAn, eOr, eNt, eChain, eCallB, eIxM, gSetIx, getM, pTru, pAdd, pSub, pMul, pFdiv, pMod, pPow, pNeg, pLt, pLe, pGt, pGe, pIs, pIsNot, pAddI, pIx, pLen, pAbs, pMax2, pMin2, Res.bind_ok, Res.bind_ex, Res.bind_stuck, Res.fl_ok, Res.fl_ex, Res.fl_stuck, Res.opt_some, Res.opt_none, lowerA, PL.keyOf, getK, getAll, setAll, setK, distinct, List.map_cons, List.map_nil, List.length_cons, List.length_nil, List.replicate, List.cons_append, List.nil_append, List.append_nil, List.getElem?_cons_zero, List.getElem?_cons_succ, List.getElem?_nil, List.set_cons_zero, List.set_cons_succ, List.filterMap_cons, List.filterMap_nil, Option.bind_some, Option.map_some, Option.elim_some, if_true, if_false, Nat.reduceAdd, Nat.reduceSub, Nat.reduceEqDiff, Nat.reduceLeDiff, ↓reduceIte, Bool.false_eq_true, at0, at1, at2, at3, pEq, pNe, eqB_int, Option.some.injEq, decide_true, decide_false, not_true_eq_false, not_false_eq_true, Bool.and_true, ne_eq, reduceCtorEq, Bool.true_eq_false, Bool.not_true, Bool.not_false, frz, noEx, wipeS, wipeR, backS, backR, keepV, oComp, gFor, iAny, iRange1, iRange2, iRange3, iRangeW1, iRangeW2, eCallQ, oRgW2, oRgW, pInt1, iEnumQ, eDct, iTxt, eFld, eMake, gSetFld, eFldM, eTupV, putP, eLenSet, gFrz, Nat.reduceLT, oRg2, oRg1, oRg, tYesD, pIn, pNotIn, eSl, pNo, pSo, forL_nil, gApp, gParO, List.not_mem_nil, List.not_mem_nil, eq_self, not_true_eq_false, not_false_eq_true, ix30, ix31, ix32, Bool.and_self, and_self, and_true, true_and])
abbrev k1 (t : Int) (p : PV) : PV := kern t [p] []
/-! ### waves in groups -/
end PM
/-! PLW3: count_lines and lines_of_wave answer the lines. -/
namespace PN
end PN
namespace PM
open PySem PySem.Spec PyProof.Rows L2 PL PN
local macro_rules | `(tactic| walk_at "ev") => `(tactic| try simp only [mOf, endF, start0, gSeq, gNop, gAsg, gRet, gRetO, gAsgO, gDrop, gIf, gOpt, gPar, gPar3, gAug, aName, asNil, asCons, aTup, aLst, setV, setO, eVar, eC, eBin, eUn, eTup, aNil, aCons, oLst, frz, eCall, oCall, avN, avK, permL, lNil, lPv, lSl, tOf, tTru, tNt, tAn, tOrr, eIf, eAn, eOr, eNt, eChain, eCallB, eIxM, gSetIx, getM, pTru, pAdd, pSub, pMul, pFdiv, pMod, pPow, pNeg, pLt, pLe, pGt, pGe, pIs, pIsNot, pAddI, pIx, pLen, pAbs, pMax2, pMin2, Res.bind_ok, Res.bind_ex, Res.bind_stuck, Res.fl_ok, Res.fl_ex, Res.fl_stuck, Res.opt_some, Res.opt_none, lowerA, PL.keyOf, getK, getAll, setAll, setK, distinct, List.map_cons, List.map_nil, List.length_cons, List.length_nil, List.replicate, List.cons_append, List.nil_append, List.append_nil, List.getElem?_cons_zero, List.getElem?_cons_succ, List.getElem?_nil, List.set_cons_zero, List.set_cons_succ, List.filterMap_cons, List.filterMap_nil, Option.bind_some, Option.map_some, Option.elim_some, if_true, if_false, Nat.reduceAdd, Nat.reduceSub, Nat.reduceEqDiff, Nat.reduceLeDiff, ↓reduceIte, Bool.false_eq_true, at0, at1, at2, at3, pEq, pNe, eqB_int, Option.some.injEq, decide_true, decide_false, not_true_eq_false, not_false_eq_true, Bool.and_true, ne_eq, reduceCtorEq, Bool.true_eq_false, Bool.not_true, Bool.not_false, frz, noEx, wipeS, wipeR, backS, backR, keepV, oComp, gFor, iAny, iRange1, iRange2, iRange3, iRangeW1, iRangeW2, eCallQ, oRgW2, oRgW, pInt1, iEnumQ, eDct, iTxt, eFld, eMake, gSetFld, eFldM, eTupV, putP, eLenSet, gFrz, Nat.reduceLT, oRg2, oRg1, oRg, tYesD, pIn, pNotIn, eSl, pNo, pSo, forL_nil, gApp, gParO, List.not_mem_nil, List.not_mem_nil])
local macro_rules | `(tactic| walk_at "evs") => `(tactic| simp only [*, mOf, endF, start0, gSeq, gNop, gAsg, gRet, gRetO, gAsgO, gDrop, gIf, gOpt, gPar, gPar3, gAug, aName, asNil, asCons, aTup, aLst, setV, setO, eVar, eC, eBin, eUn, eTup, aNil, aCons, oLst, frz, eCall, oCall, avN, avK, permL, lNil, lPv, lSl, tOf, tTru, tNt, tAn, tOrr, eIf, eAn, eOr, eNt, eChain, eCallB, eIxM, gSetIx, getM, pTru, pAdd, pSub, pMul, pFdiv, pMod, pPow, pNeg, pLt, pLe, pGt, pGe, pIs, pIsNot, pAddI, pIx, pLen, pAbs, pMax2, pMin2, Res.bind_ok, Res.bind_ex, Res.bind_stuck, Res.fl_ok, Res.fl_ex, Res.fl_stuck, Res.opt_some, Res.opt_none, lowerA, PL.keyOf, getK, getAll, setAll, setK, distinct, List.map_cons, List.map_nil, List.length_cons, List.length_nil, List.replicate, List.cons_append, List.nil_append, List.append_nil, List.getElem?_cons_zero, List.getElem?_cons_succ, List.getElem?_nil, List.set_cons_zero, List.set_cons_succ, List.filterMap_cons, List.filterMap_nil, Option.bind_some, Option.map_some, Option.elim_some, if_true, if_false, Nat.reduceAdd, Nat.reduceSub, Nat.reduceEqDiff, Nat.reduceLeDiff, ↓reduceIte, Bool.false_eq_true, at0, at1, at2, at3, pEq, pNe, eqB_int, Option.some.injEq, decide_true, decide_false, not_true_eq_false, not_false_eq_true, Bool.and_true, ne_eq, reduceCtorEq, Bool.true_eq_false, Bool.not_true, Bool.not_false, frz, noEx, wipeS, wipeR, backS, backR, keepV, oComp, gFor, iAny, iRange1, iRange2, iRange3, iRangeW1, iRangeW2, eCallQ, oRgW2, oRgW, pInt1, iEnumQ, eDct, iTxt, eFld, eMake, gSetFld, eFldM, eTupV, putP, eLenSet, gFrz, Nat.reduceLT, oRg2, oRg1, oRg, tYesD, pIn, pNotIn, eSl, pNo, pSo, forL_nil, gApp, gParO, List.not_mem_nil, List.not_mem_nil, eq_self, not_true_eq_false, not_false_eq_true, ix30, ix31, ix32, Bool.and_self, and_self, and_true, true_and])
end PM
/-! PLW4: lines of a wave; mirrored kernels of one put. -/
namespace PN
end PN
namespace PM
open PySem PySem.Spec PyProof.Rows L2 PL PN
local macro_rules | `(tactic| walk_at "ev") => `(tactic| try simp only [mOf, endF, start0, gSeq, gNop, gAsg, gRet, gRetO, gAsgO, gDrop, gIf, gOpt, gPar, gPar3, gAug, aName, asNil, asCons, aTup, aLst, setV, setO, eVar, eC, eBin, eUn, eTup, aNil, aCons, oLst, frz, eCall, oCall, avN, avK, permL, lNil, lPv, lSl, tOf, tTru, tNt, tAn, tOrr, eIf, eAn, eOr, eNt, eChain, eCallB, eIxM, gSetIx, getM, pTru, pAdd, pSub, pMul, pFdiv, pMod, pPow, pNeg, pLt, pLe, pGt, pGe, pIs, pIsNot, pAddI, pIx, pLen, pAbs, pMax2, pMin2, Res.bind_ok, Res.bind_ex, Res.bind_stuck, Res.fl_ok, Res.fl_ex, Res.fl_stuck, Res.opt_some, Res.opt_none, lowerA, PL.keyOf, getK, getAll, setAll, setK, distinct, List.map_cons, List.map_nil, List.length_cons, List.length_nil, List.replicate, List.cons_append, List.nil_append, List.append_nil, List.getElem?_cons_zero, List.getElem?_cons_succ, List.getElem?_nil, List.set_cons_zero, List.set_cons_succ, List.filterMap_cons, List.filterMap_nil, Option.bind_some, Option.map_some, Option.elim_some, if_true, if_false, Nat.reduceAdd, Nat.reduceSub, Nat.reduceEqDiff, Nat.reduceLeDiff, ↓reduceIte, Bool.false_eq_true, at0, at1, at2, at3, pEq, pNe, eqB_int, Option.some.injEq, decide_true, decide_false, not_true_eq_false, not_false_eq_true, Bool.and_true, ne_eq, reduceCtorEq, Bool.true_eq_false, Bool.not_true, Bool.not_false, frz, noEx, wipeS, wipeR, backS, backR, keepV, oComp, gFor, iAny, iRange1, iRange2, iRange3, iRangeW1, iRangeW2, eCallQ, oRgW2, oRgW, pInt1, iEnumQ, eDct, iTxt, eFld, eMake, gSetFld, eFldM, eTupV, putP, eLenSet, gFrz, Nat.reduceLT, oRg2, oRg1, oRg, tYesD, pIn, pNotIn, eSl, pNo, pSo, forL_nil, gApp, gParO, List.not_mem_nil, List.not_mem_nil])
local macro_rules | `(tactic| walk_at "evs") => `(tactic| simp only [*, mOf, endF, start0, gSeq, gNop, gAsg, gRet, gRetO, gAsgO, gDrop, gIf, gOpt, gPar, gPar3, gAug, aName, asNil, asCons, aTup, aLst, setV, setO, eVar, eC, eBin, eUn, eTup, aNil, aCons, oLst, frz, eCall, oCall, avN, avK, permL, lNil, lPv, lSl, tOf, tTru, tNt, tAn, tOrr, eIf, eAn, eOr, eNt, eChain, eCallB, eIxM, gSetIx, getM, pTru, pAdd, pSub, pMul, pFdiv, pMod, pPow, pNeg, pLt, pLe, pGt, pGe, pIs, pIsNot, pAddI, pIx, pLen, pAbs, pMax2, pMin2, Res.bind_ok, Res.bind_ex, Res.bind_stuck, Res.fl_ok, Res.fl_ex, Res.fl_stuck, Res.opt_some, Res.opt_none, lowerA, PL.keyOf, getK, getAll, setAll, setK, distinct, List.map_cons, List.map_nil, List.length_cons, List.length_nil, List.replicate, List.cons_append, List.nil_append, List.append_nil, List.getElem?_cons_zero, List.getElem?_cons_succ, List.getElem?_nil, List.set_cons_zero, List.set_cons_succ, List.filterMap_cons, List.filterMap_nil, Option.bind_some, Option.map_some, Option.elim_some, if_true, if_false, Nat.reduceAdd, Nat.reduceSub, Nat.reduceEqDiff, Nat.reduceLeDiff, ↓reduceIte, Bool.false_eq_true, at0, at1, at2, at3, pEq, pNe, eqB_int, Option.some.injEq, decide_true, decide_false, not_true_eq_false, not_false_eq_true, Bool.and_true, ne_eq, reduceCtorEq, Bool.true_eq_false, Bool.not_true, Bool.not_false, frz, noEx, wipeS, wipeR, backS, backR, keepV, oComp, gFor, iAny, iRange1, iRange2, iRange3, iRangeW1, iRangeW2, eCallQ, oRgW2, oRgW, pInt1, iEnumQ, eDct, iTxt, eFld, eMake, gSetFld, eFldM, eTupV, putP, eLenSet, gFrz, Nat.reduceLT, oRg2, oRg1, oRg, tYesD, pIn, pNotIn, eSl, pNo, pSo, forL_nil, gApp, gParO, List.not_mem_nil, List.not_mem_nil, eq_self, not_true_eq_false, not_false_eq_true, ix30, ix31, ix32, Bool.and_self, and_self, and_true, true_and])
/-! ### mirrored -/
end PM
/-! PWK: statements of all words, kernels with barriers. -/
namespace PM
open PySem PySem.Spec PyProof.Rows L2 PL PN
local macro_rules | `(tactic| walk_at "ev") => `(tactic| try simp only [mOf, endF, start0, gSeq, gNop, gAsg, gRet, gRetO, gAsgO, gDrop, gIf, gOpt, gPar, gPar3, gAug, aName, asNil, asCons, aTup, aLst, setV, setO, eVar, eC, eBin, eUn, eTup, aNil, aCons, oLst, frz, eCall, oCall, avN, avK, permL, lNil, lPv, lSl, tOf, tTru, tNt, tAn, tOrr, eIf, eAn, eOr, eNt, eChain, eCallB, eIxM, gSetIx, getM, pTru, pAdd, pSub, pMul, pFdiv, pMod, pPow, pNeg, pLt, pLe, pGt, pGe, pIs, pIsNot, pAddI, pIx, pLen, pAbs, pMax2, pMin2, Res.bind_ok, Res.bind_ex, Res.bind_stuck, Res.fl_ok, Res.fl_ex, Res.fl_stuck, Res.opt_some, Res.opt_none, lowerA, PL.keyOf, getK, getAll, setAll, setK, distinct, List.map_cons, List.map_nil, List.length_cons, List.length_nil, List.replicate, List.cons_append, List.nil_append, List.append_nil, List.getElem?_cons_zero, List.getElem?_cons_succ, List.getElem?_nil, List.set_cons_zero, List.set_cons_succ, List.filterMap_cons, List.filterMap_nil, Option.bind_some, Option.map_some, Option.elim_some, if_true, if_false, Nat.reduceAdd, Nat.reduceSub, Nat.reduceEqDiff, Nat.reduceLeDiff, ↓reduceIte, Bool.false_eq_true, at0, at1, at2, at3, pEq, pNe, eqB_int, Option.some.injEq, decide_true, decide_false, not_true_eq_false, not_false_eq_true, Bool.and_true, ne_eq, reduceCtorEq, Bool.true_eq_false, Bool.not_true, Bool.not_false, frz, noEx, wipeS, wipeR, backS, backR, keepV, oComp, gFor, iAny, iRange1, iRange2, iRange3, iRangeW1, iRangeW2, eCallQ, oRgW2, oRgW, pInt1, iEnumQ, eDct, iTxt, eFld, eMake, gSetFld, eFldM, eTupV, putP, eLenSet, gFrz, Nat.reduceLT, oRg2, oRg1, oRg, tYesD, pIn, pNotIn, eSl, pNo, pSo, forL_nil, gApp, gParO, List.not_mem_nil, List.not_mem_nil])
local macro_rules | `(tactic| walk_at "evs") => `(tactic| simp only [*, mOf, endF, start0, gSeq, gNop, gAsg, gRet, gRetO, gAsgO, gDrop, gIf, gOpt, gPar, gPar3, gAug, aName, asNil, asCons, aTup, aLst, setV, setO, eVar, eC, eBin, eUn, eTup, aNil, aCons, oLst, frz, eCall, oCall, avN, avK, permL, lNil, lPv, lSl, tOf, tTru, tNt, tAn, tOrr, eIf, eAn, eOr, eNt, eChain, eCallB, eIxM, gSetIx, getM, pTru, pAdd, pSub, pMul, pFdiv, pMod, pPow, pNeg, pLt, pLe, pGt, pGe, pIs, pIsNot, pAddI, pIx, pLen, pAbs, pMax2, pMin2, Res.bind_ok, Res.bind_ex, Res.bind_stuck, Res.fl_ok, Res.fl_ex, Res.fl_stuck, Res.opt_some, Res.opt_none, lowerA, PL.keyOf, getK, getAll, setAll, setK, distinct, List.map_cons, List.map_nil, List.length_cons, List.length_nil, List.replicate, List.cons_append, List.nil_append, List.append_nil, List.getElem?_cons_zero, List.getElem?_cons_succ, List.getElem?_nil, List.set_cons_zero, List.set_cons_succ, List.filterMap_cons, List.filterMap_nil, Option.bind_some, Option.map_some, Option.elim_some, if_true, if_false, Nat.reduceAdd, Nat.reduceSub, Nat.reduceEqDiff, Nat.reduceLeDiff, ↓reduceIte, Bool.false_eq_true, at0, at1, at2, at3, pEq, pNe, eqB_int, Option.some.injEq, decide_true, decide_false, not_true_eq_false, not_false_eq_true, Bool.and_true, ne_eq, reduceCtorEq, Bool.true_eq_false, Bool.not_true, Bool.not_false, frz, noEx, wipeS, wipeR, backS, backR, keepV, oComp, gFor, iAny, iRange1, iRange2, iRange3, iRangeW1, iRangeW2, eCallQ, oRgW2, oRgW, pInt1, iEnumQ, eDct, iTxt, eFld, eMake, gSetFld, eFldM, eTupV, putP, eLenSet, gFrz, Nat.reduceLT, oRg2, oRg1, oRg, tYesD, pIn, pNotIn, eSl, pNo, pSo, forL_nil, gApp, gParO, List.not_mem_nil, List.not_mem_nil, eq_self, not_true_eq_false, not_false_eq_true, ix30, ix31, ix32, Bool.and_self, and_self, and_true, true_and])
/-- the words and what follows the cell -/
inductive StF where
  | put (c d : Int) | move (z2 : Str) (c d e : Int) | sum (z2 : Str) (c d : Int) (z3 : Str) (e f : Int)
structure Stm where
  l : Int
  h : Int
  s : Int
  r : Int
  z : Str
  a : Int
  b : Int
  k : StF
def Stm.items (x : Stm) : List PV := match x.k with
  | .put c d => [.str "put", gt x.l x.h x.s x.r, .str x.z, .int x.a, .int x.b, .int c, .int d]
  | .move z2 c d e => [.str "move", gt x.l x.h x.s x.r, .str x.z, .int x.a, .int x.b, .str z2, .int c, .int d, .int e]
  | .sum z2 c d z3 e f => [.str "sum", gt x.l x.h x.s x.r, .str x.z, .int x.a, .int x.b, .str z2, .int c, .int d, .str z3, .int e, .int f]
def Stm.pv (x : Stm) : PV := .tup x.items
def StF.mir (n : Int) : StF → StF
  | .put c d => .put (-c) (d + c * (n - 1))
  | .move z2 c d e => .move z2 (-c) (d + c * (n - 1)) e
  | .sum z2 c d z3 e f => .sum z2 (-c) (d + c * (n - 1)) z3 (-e) (f + e * (n - 1))
def Stm.mir (n : Int) (x : Stm) : Stm := ⟨n - x.h, n - x.l, x.s, (n - 1 - x.r) % x.s, x.z, -x.a, x.b + x.a * (n - 1), x.k.mir n⟩
/-- a name that may be compared -/
structure Nm (z : Str) : Prop where
  arr : ArrN z
  so : PyData.strOk z = true
def Sm (x : Int) : Prop := x.natAbs < 2 ^ 300
def StF.ok : StF → Prop
  | .put c d => Sm c
  | .move z2 c d e => Nm z2 ∧ Sm c
  | .sum z2 c d z3 e f => Nm z2 ∧ Sm c ∧ Nm z3 ∧ Sm e
structure Stm.ok (n : Int) (x : Stm) : Prop where
  l0 : 0 ≤ x.l
  lh : x.l ≤ x.h
  hn : x.h ≤ n
  r0 : 0 ≤ x.r
  r1 : x.r < x.s
  sb : x.s < 2 ^ 200
  z : Nm x.z
  a : Sm x.a
  k : x.k.ok
theorem Sm.neg {x : Int} (h : Sm x) : Sm (-x) := by unfold Sm at *; omega
theorem Stm.ok.mir {n : Int} {x : Stm} (o : x.ok n) : (x.mir n).ok n := by
  have s0 : 0 < x.s := by have := o.r0; have := o.r1; omega
  refine ⟨?_, ?_, ?_, Int.emod_nonneg _ (by show x.s ≠ 0; omega), Int.emod_lt_of_pos _ s0, o.sb, o.z, o.a.neg, ?_⟩
  · show 0 ≤ n - x.h; have := o.hn; omega
  · show n - x.h ≤ n - x.l; have := o.lh; omega
  · show n - x.l ≤ n; have := o.l0; omega
  · have k := o.k
    obtain ⟨l, h, s, r, z, a, b, k'⟩ := x
    cases k' with
    | put c d => exact Sm.neg k
    | move z2 c d e => exact ⟨k.1, k.2.neg⟩
    | sum z2 c d z3 e f => exact ⟨k.1, k.2.1.neg, k.2.2.1, k.2.2.2.neg⟩
theorem Stm.mir_mir {n : Int} {x : Stm} (o : x.ok n) : (x.mir n).mir n = x := by
  have s0 : 0 < x.s := by have := o.r0; have := o.r1; omega
  have hr : (n - 1 - (n - 1 - x.r) % x.s) % x.s = x.r := by
    have e : (n - 1 - (n - 1 - x.r) % x.s) % x.s = x.r % x.s := by
      refine emod_of_dvd ?_
      have := Int.mul_ediv_add_emod (n - 1 - x.r) x.s
      exact ⟨(n - 1 - x.r) / x.s, by omega⟩
    rw [e]
    exact Int.emod_eq_of_lt o.r0 o.r1
  have pr : ∀ a b : Int, b + a * (n - 1) + -a * (n - 1) = b := fun a b => by rw [Int.neg_mul]; omega
  obtain ⟨l, h, s, r, z, a, b, k⟩ := x
  unfold Stm.mir
  simp only at hr ⊢
  rw [hr, pr, show n - (n - l) = l by omega, show n - (n - h) = h by omega, Int.neg_neg]
  congr 1
  cases k <;> simp only [StF.mir, pr, Int.neg_neg]
/-! ### data compared -/
def Dd (p : PV) (k : Nat) : Prop := ∃ d, toD p = some d ∧ d.canLay0 = true ∧ d.depth ≤ k
theorem Dd.mono {p : PV} {k k' : Nat} (h : Dd p k) (hk : k ≤ k') : Dd p k' := by
  obtain ⟨d, h1, h2, h3⟩ := h
  exact ⟨d, h1, h2, Nat.le_trans h3 hk⟩
theorem Dd.int (i : Int) : Dd (.int i) 0 := ⟨.int i, rfl, by simp [PyData.canLay0], by simp [PyData.depth]⟩
theorem Dd.str {x : Str} (h : PyData.strOk x = true) : Dd (.str x) 0 := ⟨.str x, rfl, by simp [PyData.canLay0, h], by simp [PyData.depth]⟩
theorem Dds.of {k : Nat} : ∀ {l : List PV}, (∀ p ∈ l, Dd p k) → ∃ ds, toDs l = some ds ∧ PyData.canLayAll0 ds = true ∧ PyData.depthAll ds ≤ k
  | [], _ => ⟨[], rfl, by simp [PyData.canLayAll0], by simp [PyData.depthAll]⟩
  | p :: r, h => by
    obtain ⟨d, h1, h2, h3⟩ := h p List.mem_cons_self
    obtain ⟨ds, g1, g2, g3⟩ := Dds.of (l := r) fun q hq => h q (List.mem_cons_of_mem _ hq)
    refine ⟨d :: ds, ?_, ?_, ?_⟩
    · unfold toDs; rw [h1, g1]
    · rw [PyData.canLayAll0, h2, g2]; rfl
    · rw [PyData.depthAll]; omega
theorem Dd.tup {l : List PV} {k : Nat} (h : ∀ p ∈ l, Dd p k) : Dd (.tup l) (k + 1) := by
  obtain ⟨ds, g1, g2, g3⟩ := Dds.of h
  exact ⟨.tuple ds, by unfold toD; rw [g1]; rfl, by rw [PyData.canLay0]; exact g2, by rw [PyData.depth]; omega⟩
theorem Dd.lst {l : List PV} {k : Nat} (h : ∀ p ∈ l, Dd p k) : Dd (.lst l) (k + 1) := by
  obtain ⟨ds, g1, g2, g3⟩ := Dds.of h
  exact ⟨.list ds, by unfold toD; rw [g1]; rfl, by rw [PyData.canLay0]; exact g2, by rw [PyData.depth]; omega⟩
theorem Dd.eq_self {p : PV} {k : Nat} (h : Dd p k) (hk : k ≤ 64) : pEqB p p = some true := by
  obtain ⟨d, h1, h2, h3⟩ := h
  have sh : SeqAt.shaped d = true := by
    unfold SeqAt.shaped
    rw [h2, decide_eq_true (Nat.le_trans h3 hk)]; rfl
  unfold pEqB
  simp only [h1, sh, Bool.and_self, if_true]
  rw [SeqAt.eqv_refl d h2]
end PM
/-! PWK2: what kernels.py answers of statements of all words and of kernels with barriers. -/
namespace PM
open PySem PySem.Spec PyProof.Rows L2 PL PN
local macro_rules | `(tactic| walk_at "ev") => `(tactic| try simp only [mOf, endF, start0, gSeq, gNop, gAsg, gRet, gRetO, gAsgO, gDrop, gIf, gOpt, gPar, gPar3, gAug, aName, asNil, asCons, aTup, aLst, setV, setO, eVar, eC, eBin, eUn, eTup, aNil, aCons, oLst, frz, eCall, oCall, avN, avK, permL, lNil, lPv, lSl, tOf, tTru, tNt, tAn, tOrr, eIf, eAn, eOr, eNt, eChain, eCallB, eIxM, gSetIx, getM, pTru, pAdd, pSub, pMul, pFdiv, pMod, pPow, pNeg, pLt, pLe, pGt, pGe, pIs, pIsNot, pAddI, pIx, pLen, pAbs, pMax2, pMin2, Res.bind_ok, Res.bind_ex, Res.bind_stuck, Res.fl_ok, Res.fl_ex, Res.fl_stuck, Res.opt_some, Res.opt_none, lowerA, PL.keyOf, getK, getAll, setAll, setK, distinct, List.map_cons, List.map_nil, List.length_cons, List.length_nil, List.replicate, List.cons_append, List.nil_append, List.append_nil, List.getElem?_cons_zero, List.getElem?_cons_succ, List.getElem?_nil, List.set_cons_zero, List.set_cons_succ, List.filterMap_cons, List.filterMap_nil, Option.bind_some, Option.map_some, Option.elim_some, if_true, if_false, Nat.reduceAdd, Nat.reduceSub, Nat.reduceEqDiff, Nat.reduceLeDiff, ↓reduceIte, Bool.false_eq_true, at0, at1, at2, at3, pEq, pNe, eqB_int, Option.some.injEq, decide_true, decide_false, not_true_eq_false, not_false_eq_true, Bool.and_true, ne_eq, reduceCtorEq, Bool.true_eq_false, Bool.not_true, Bool.not_false, frz, noEx, wipeS, wipeR, backS, backR, keepV, oComp, gFor, iAny, iRange1, iRange2, iRange3, iRangeW1, iRangeW2, eCallQ, oRgW2, oRgW, pInt1, iEnumQ, eDct, iTxt, eFld, eMake, gSetFld, eFldM, eTupV, putP, eLenSet, gFrz, Nat.reduceLT, oRg2, oRg1, oRg, tYesD, pIn, pNotIn, eSl, pNo, pSo, forL_nil, gApp, gParO, List.not_mem_nil, List.not_mem_nil])
local macro_rules | `(tactic| walk_at "evs") => `(tactic| simp only [*, mOf, endF, start0, gSeq, gNop, gAsg, gRet, gRetO, gAsgO, gDrop, gIf, gOpt, gPar, gPar3, gAug, aName, asNil, asCons, aTup, aLst, setV, setO, eVar, eC, eBin, eUn, eTup, aNil, aCons, oLst, frz, eCall, oCall, avN, avK, permL, lNil, lPv, lSl, tOf, tTru, tNt, tAn, tOrr, eIf, eAn, eOr, eNt, eChain, eCallB, eIxM, gSetIx, getM, pTru, pAdd, pSub, pMul, pFdiv, pMod, pPow, pNeg, pLt, pLe, pGt, pGe, pIs, pIsNot, pAddI, pIx, pLen, pAbs, pMax2, pMin2, Res.bind_ok, Res.bind_ex, Res.bind_stuck, Res.fl_ok, Res.fl_ex, Res.fl_stuck, Res.opt_some, Res.opt_none, lowerA, PL.keyOf, getK, getAll, setAll, setK, distinct, List.map_cons, List.map_nil, List.length_cons, List.length_nil, List.replicate, List.cons_append, List.nil_append, List.append_nil, List.getElem?_cons_zero, List.getElem?_cons_succ, List.getElem?_nil, List.set_cons_zero, List.set_cons_succ, List.filterMap_cons, List.filterMap_nil, Option.bind_some, Option.map_some, Option.elim_some, if_true, if_false, Nat.reduceAdd, Nat.reduceSub, Nat.reduceEqDiff, Nat.reduceLeDiff, ↓reduceIte, Bool.false_eq_true, at0, at1, at2, at3, pEq, pNe, eqB_int, Option.some.injEq, decide_true, decide_false, not_true_eq_false, not_false_eq_true, Bool.and_true, ne_eq, reduceCtorEq, Bool.true_eq_false, Bool.not_true, Bool.not_false, frz, noEx, wipeS, wipeR, backS, backR, keepV, oComp, gFor, iAny, iRange1, iRange2, iRange3, iRangeW1, iRangeW2, eCallQ, oRgW2, oRgW, pInt1, iEnumQ, eDct, iTxt, eFld, eMake, gSetFld, eFldM, eTupV, putP, eLenSet, gFrz, Nat.reduceLT, oRg2, oRg1, oRg, tYesD, pIn, pNotIn, eSl, pNo, pSo, forL_nil, gApp, gParO, List.not_mem_nil, List.not_mem_nil, eq_self, not_true_eq_false, not_false_eq_true, ix30, ix31, ix32, Bool.and_self, and_self, and_true, true_and])
end PM
/-! PWK3: kernels made with barriers, mirrored, compared, looked at. -/
namespace PM
open PySem PySem.Spec PyProof.Rows L2 PL PN
local macro_rules | `(tactic| walk_at "ev") => `(tactic| try simp only [mOf, endF, start0, gSeq, gNop, gAsg, gRet, gRetO, gAsgO, gDrop, gIf, gOpt, gPar, gPar3, gAug, aName, asNil, asCons, aTup, aLst, setV, setO, eVar, eC, eBin, eUn, eTup, aNil, aCons, oLst, frz, eCall, oCall, avN, avK, permL, lNil, lPv, lSl, tOf, tTru, tNt, tAn, tOrr, eIf, eAn, eOr, eNt, eChain, eCallB, eIxM, gSetIx, getM, pTru, pAdd, pSub, pMul, pFdiv, pMod, pPow, pNeg, pLt, pLe, pGt, pGe, pIs, pIsNot, pAddI, pIx, pLen, pAbs, pMax2, pMin2, Res.bind_ok, Res.bind_ex, Res.bind_stuck, Res.fl_ok, Res.fl_ex, Res.fl_stuck, Res.opt_some, Res.opt_none, lowerA, PL.keyOf, getK, getAll, setAll, setK, distinct, List.map_cons, List.map_nil, List.length_cons, List.length_nil, List.replicate, List.cons_append, List.nil_append, List.append_nil, List.getElem?_cons_zero, List.getElem?_cons_succ, List.getElem?_nil, List.set_cons_zero, List.set_cons_succ, List.filterMap_cons, List.filterMap_nil, Option.bind_some, Option.map_some, Option.elim_some, if_true, if_false, Nat.reduceAdd, Nat.reduceSub, Nat.reduceEqDiff, Nat.reduceLeDiff, ↓reduceIte, Bool.false_eq_true, at0, at1, at2, at3, pEq, pNe, eqB_int, Option.some.injEq, decide_true, decide_false, not_true_eq_false, not_false_eq_true, Bool.and_true, ne_eq, reduceCtorEq, Bool.true_eq_false, Bool.not_true, Bool.not_false, frz, noEx, wipeS, wipeR, backS, backR, keepV, oComp, gFor, iAny, iRange1, iRange2, iRange3, iRangeW1, iRangeW2, eCallQ, oRgW2, oRgW, pInt1, iEnumQ, eDct, iTxt, eFld, eMake, gSetFld, eFldM, eTupV, putP, eLenSet, gFrz, Nat.reduceLT, oRg2, oRg1, oRg, tYesD, pIn, pNotIn, eSl, pNo, pSo, forL_nil, gApp, gParO, List.not_mem_nil, List.not_mem_nil])
local macro_rules | `(tactic| walk_at "evs") => `(tactic| simp only [*, mOf, endF, start0, gSeq, gNop, gAsg, gRet, gRetO, gAsgO, gDrop, gIf, gOpt, gPar, gPar3, gAug, aName, asNil, asCons, aTup, aLst, setV, setO, eVar, eC, eBin, eUn, eTup, aNil, aCons, oLst, frz, eCall, oCall, avN, avK, permL, lNil, lPv, lSl, tOf, tTru, tNt, tAn, tOrr, eIf, eAn, eOr, eNt, eChain, eCallB, eIxM, gSetIx, getM, pTru, pAdd, pSub, pMul, pFdiv, pMod, pPow, pNeg, pLt, pLe, pGt, pGe, pIs, pIsNot, pAddI, pIx, pLen, pAbs, pMax2, pMin2, Res.bind_ok, Res.bind_ex, Res.bind_stuck, Res.fl_ok, Res.fl_ex, Res.fl_stuck, Res.opt_some, Res.opt_none, lowerA, PL.keyOf, getK, getAll, setAll, setK, distinct, List.map_cons, List.map_nil, List.length_cons, List.length_nil, List.replicate, List.cons_append, List.nil_append, List.append_nil, List.getElem?_cons_zero, List.getElem?_cons_succ, List.getElem?_nil, List.set_cons_zero, List.set_cons_succ, List.filterMap_cons, List.filterMap_nil, Option.bind_some, Option.map_some, Option.elim_some, if_true, if_false, Nat.reduceAdd, Nat.reduceSub, Nat.reduceEqDiff, Nat.reduceLeDiff, ↓reduceIte, Bool.false_eq_true, at0, at1, at2, at3, pEq, pNe, eqB_int, Option.some.injEq, decide_true, decide_false, not_true_eq_false, not_false_eq_true, Bool.and_true, ne_eq, reduceCtorEq, Bool.true_eq_false, Bool.not_true, Bool.not_false, frz, noEx, wipeS, wipeR, backS, backR, keepV, oComp, gFor, iAny, iRange1, iRange2, iRange3, iRangeW1, iRangeW2, eCallQ, oRgW2, oRgW, pInt1, iEnumQ, eDct, iTxt, eFld, eMake, gSetFld, eFldM, eTupV, putP, eLenSet, gFrz, Nat.reduceLT, oRg2, oRg1, oRg, tYesD, pIn, pNotIn, eSl, pNo, pSo, forL_nil, gApp, gParO, List.not_mem_nil, List.not_mem_nil, eq_self, not_true_eq_false, not_false_eq_true, ix30, ix31, ix32, Bool.and_self, and_self, and_true, true_and])
/-- barriers of so many statements -/
def BarOk (k : Int) (bs : List Int) : Prop := ∀ (i : Nat) (p q : Int), (0 :: bs)[i]? = some p → bs[i]? = some q → p < q ∧ q < k
end PM
/-! PWK4: a kernel's properties, methods and comparisons, where it stands in a slot. -/
namespace PM
open PySem PySem.Spec PyProof.Rows L2 PL PN
theorem bar_of {k : Int} {bs : List Int} (h : bs.Pairwise (· < ·)) (h0 : ∀ b ∈ bs, 0 < b ∧ b < k) : BarOk k bs := by
  intro i p q hp hq
  have hm := h0 q (List.mem_of_getElem? hq)
  refine ⟨?_, hm.2⟩
  cases i with
  | zero => cases hp; exact hm.1
  | succ i =>
    rw [List.getElem?_cons_succ] at hp
    obtain ⟨a1, a2⟩ := List.getElem?_eq_some_iff.mp hp
    obtain ⟨b1, b2⟩ := List.getElem?_eq_some_iff.mp hq
    rw [← a2, ← b2]
    exact List.pairwise_iff_getElem.mp h i (i + 1) a1 b1 (by omega)
end PM
/-! PGN: plain maths of guards that meet, of remainders, of barriers. -/
namespace PM
open PySem PySem.Spec PyProof.Rows L2 PL PN
/-- a guard with a bounded step -/
structure Gv (l h s r B : Int) : Prop where
  l0 : 0 ≤ l
  lh : l ≤ h
  r0 : 0 ≤ r
  r1 : r < s
  sb : s ≤ B
theorem Gv.g {l h s r B : Int} (g : Gv l h s r B) : isGuard l h s r = true := guard_iff.mpr ⟨g.l0, g.lh, g.r0, g.r1⟩
theorem Gv.s0 {l h s r B : Int} (g : Gv l h s r B) : 0 < s := by have := g.r0; have := g.r1; omega
theorem Gv.none {l h s r B : Int} (g : Gv l h s r B) (hn : ¬ 0 < lanesOf l h s r) {z : Int} (h1 : l ≤ z) (h2 : z < h) : ¬ z % s = r := fun e => by
  obtain ⟨k, k0, k1, _⟩ := (lane_iff g.s0 g.r0 g.r1).mp ⟨h1, h2, e⟩
  omega
/-! ### lanes of remainders of a multiple of the step -/
end PM
/-! PWB: small lemmas of the walk; kernels of a list of statements; barriers of two kernels behind one another. -/
namespace PM
open PySem PySem.Spec PyProof.Rows L2 PL PN
theorem bin_at {st : Stt} {op : PV → PV → Option PV} {fa fb : Stt → Res PV} {p q r : PV} (ha : fa st = .ok p st) (hb : fb st = .ok q st) (h : op p q = some r) : eBin op fa fb st = .ok r st := by
  simp only [eBin, ha, hb, Res.bind_ok, h, Res.opt_some]
theorem bin_at2 {st s1 s2 : Stt} {op : PV → PV → Option PV} {fa fb : Stt → Res PV} {p q r : PV} (ha : fa st = .ok p s1) (hb : fb s1 = .ok q s2) (h : op p q = some r) : eBin op fa fb st = .ok r s2 := by
  simp only [eBin, ha, hb, Res.bind_ok, h, Res.opt_some]
theorem asg_at {st s1 s2 : Stt} {fa : Stt → Res PV} {i : Nat} {p : PV} (ha : fa st = .ok p s1) (h : setV i p s1 = s2) : gAsg fa (aName i) st = .nx s2 := by
  unfold gAsg
  rw [ha, ← h]
  rfl
theorem if_no {st : Stt} {ft : Stt → Res Bool} {g : Stt → Fl} (h : ft st = .ok false st) : gIf ft g gNop st = .nx st := by
  simp only [gIf, h, Res.fl, Bool.false_eq_true, if_false, gNop]
theorem orr_no {st : Stt} {f g : Stt → Res Bool} (h : f st = .ok false st) (k : g st = .ok false st) : tOrr f g st = .ok false st := by
  simp only [tOrr, h, k, Res.bind_ok, Bool.false_eq_true, if_false]
theorem ret_at {st s1 : Stt} {fa : Stt → Res PV} {p : PV} (ha : fa st = .ok p s1) : gRet fa st = .rt p s1 := by
  unfold gRet
  rw [ha]
  rfl
abbrev bars (bs : List Int) : PV := .lst (bs.map PV.int)
theorem Dd.bl (b : Bool) : Dd (.bl b) 0 := ⟨.bool b, rfl, by simp [PyData.canLay0], by simp [PyData.depth]⟩
theorem mm {n : Int} {xs : List Stm} (hx : ∀ x ∈ xs, x.ok n) : (xs.map (Stm.mir n)).map (Stm.mir n) = xs := by
  rw [List.map_map]
  exact (List.map_congr_left (g := id) fun x h => Stm.mir_mir (hx x h)).trans (List.map_id _)
theorem lst_at {st s1 : Stt} {fa : Stt → Res (List PV)} {l : List PV} (ha : fa st = .ok l s1) (h : l.length ≤ 16777216) : frz (oLst fa) st = .ok (.lst l) s1 := by
  unfold frz oLst
  rw [ha]
  simp only [Res.bind_ok]
  rw [if_pos h]
  rfl
theorem Dd.non : Dd .non 0 := ⟨.none, rfl, by simp [PyData.canLay0], by simp [PyData.depth]⟩
/-! ### barriers -/
theorem bar_asc {k : Int} : ∀ {bs : List Int} {lo : Int}, (∀ (i : Nat) (p q : Int), (lo :: bs)[i]? = some p → bs[i]? = some q → p < q ∧ q < k) → bs.Pairwise (· < ·) ∧ ∀ b ∈ bs, lo < b ∧ b < k
  | [], _, _ => ⟨.nil, by simp⟩
  | b :: t, lo, h => by
    have h0 := h 0 lo b rfl rfl
    obtain ⟨i1, i2⟩ := bar_asc (bs := t) (lo := b) fun i p q hp hq => h (i + 1) p q hp hq
    refine ⟨List.pairwise_cons.mpr ⟨fun x hx => (i2 x hx).1, i1⟩, fun x hx => ?_⟩
    rcases List.mem_cons.mp hx with rfl | hx
    · exact h0
    · have := i2 x hx; omega
structure Bar (k : Nat) (bs : List Int) : Prop where
  asc : bs.Pairwise (· < ·)
  bd : ∀ b ∈ bs, 0 < b ∧ b < k
theorem Bar.ok {k : Nat} {bs : List Int} (h : Bar k bs) : BarOk k bs := bar_of h.asc h.bd
theorem Bar.of {k : Nat} {bs : List Int} (h : BarOk k bs) : Bar k bs := ⟨(bar_asc h).1, (bar_asc h).2⟩
def btwI (a b : Nat) : List Int := if 0 < a ∧ 0 < b then [(a : Int)] else []
def joinB (bs : List Int) (a b : Nat) (cs : List Int) : List Int := bs ++ btwI a b ++ cs.map fun c => (a : Int) + c
theorem btw_mem {a b : Nat} {x : Int} (h : x ∈ btwI a b) : x = a ∧ 0 < a ∧ 0 < b := by
  unfold btwI at h
  split at h
  · rw [List.mem_singleton] at h; rename_i q; exact ⟨h, q⟩
  · cases h
theorem Bar.join {a b : Nat} {bs cs : List Int} (h1 : Bar a bs) (h2 : Bar b cs) : Bar (a + b) (joinB bs a b cs) := by
  refine ⟨?_, fun x hx => ?_⟩
  · unfold joinB
    rw [List.append_assoc, List.pairwise_append, List.pairwise_append]
    refine ⟨h1.asc, ⟨?_, ?_, ?_⟩, ?_⟩
    · unfold btwI; split <;> simp
    · rw [List.pairwise_map]
      exact h2.asc.imp fun h => by omega
    · intro x hx y hy
      obtain ⟨c, hc, rfl⟩ := List.mem_map.mp hy
      have := (btw_mem hx).1
      have := h2.bd c hc
      omega
    · intro x hx y hy
      have k1 := h1.bd x hx
      rcases List.mem_append.mp hy with hy | hy
      · have := (btw_mem hy).1; omega
      · obtain ⟨c, hc, rfl⟩ := List.mem_map.mp hy
        have := h2.bd c hc
        omega
  · unfold joinB at hx
    rcases List.mem_append.mp hx with hx | hx
    · rcases List.mem_append.mp hx with hx | hx
      · have := h1.bd x hx; omega
      · have := btw_mem hx; omega
    · obtain ⟨c, hc, rfl⟩ := List.mem_map.mp hx
      have := h2.bd c hc
      omega
end PM
/-! PWC: accesses of all words, phases, the sum of two kernels, other barriers. -/
namespace PM
open PySem PySem.Spec PyProof.Rows L2 PL PN
local macro_rules | `(tactic| walk_at "ev") => `(tactic| try simp only [mOf, endF, start0, gSeq, gNop, gAsg, gRet, gRetO, gAsgO, gDrop, gIf, gOpt, gPar, gPar3, gAug, aName, asNil, asCons, aTup, aLst, setV, setO, eVar, eC, eBin, eUn, eTup, aNil, aCons, oLst, frz, eCall, oCall, avN, avK, permL, lNil, lPv, lSl, tOf, tTru, tNt, tAn, tOrr, eIf, eAn, eOr, eNt, eChain, eCallB, eIxM, gSetIx, getM, pTru, pAdd, pSub, pMul, pFdiv, pMod, pPow, pNeg, pLt, pLe, pGt, pGe, pIs, pIsNot, pAddI, pIx, pLen, pAbs, pMax2, pMin2, Res.bind_ok, Res.bind_ex, Res.bind_stuck, Res.fl_ok, Res.fl_ex, Res.fl_stuck, Res.opt_some, Res.opt_none, lowerA, PL.keyOf, getK, getAll, setAll, setK, distinct, List.map_cons, List.map_nil, List.length_cons, List.length_nil, List.replicate, List.cons_append, List.nil_append, List.append_nil, List.getElem?_cons_zero, List.getElem?_cons_succ, List.getElem?_nil, List.set_cons_zero, List.set_cons_succ, List.filterMap_cons, List.filterMap_nil, Option.bind_some, Option.map_some, Option.elim_some, if_true, if_false, Nat.reduceAdd, Nat.reduceSub, Nat.reduceEqDiff, Nat.reduceLeDiff, ↓reduceIte, Bool.false_eq_true, at0, at1, at2, at3, pEq, pNe, eqB_int, Option.some.injEq, decide_true, decide_false, not_true_eq_false, not_false_eq_true, Bool.and_true, ne_eq, reduceCtorEq, Bool.true_eq_false, Bool.not_true, Bool.not_false, frz, noEx, wipeS, wipeR, backS, backR, keepV, oComp, gFor, iAny, iRange1, iRange2, iRange3, iRangeW1, iRangeW2, eCallQ, oRgW2, oRgW, pInt1, iEnumQ, eDct, iTxt, eFld, eMake, gSetFld, eFldM, eTupV, putP, eLenSet, gFrz, Nat.reduceLT, oRg2, oRg1, oRg, tYesD, pIn, pNotIn, eSl, pNo, pSo, forL_nil, gApp, gParO, List.not_mem_nil, List.not_mem_nil])
local macro_rules | `(tactic| walk_at "evs") => `(tactic| simp only [*, mOf, endF, start0, gSeq, gNop, gAsg, gRet, gRetO, gAsgO, gDrop, gIf, gOpt, gPar, gPar3, gAug, aName, asNil, asCons, aTup, aLst, setV, setO, eVar, eC, eBin, eUn, eTup, aNil, aCons, oLst, frz, eCall, oCall, avN, avK, permL, lNil, lPv, lSl, tOf, tTru, tNt, tAn, tOrr, eIf, eAn, eOr, eNt, eChain, eCallB, eIxM, gSetIx, getM, pTru, pAdd, pSub, pMul, pFdiv, pMod, pPow, pNeg, pLt, pLe, pGt, pGe, pIs, pIsNot, pAddI, pIx, pLen, pAbs, pMax2, pMin2, Res.bind_ok, Res.bind_ex, Res.bind_stuck, Res.fl_ok, Res.fl_ex, Res.fl_stuck, Res.opt_some, Res.opt_none, lowerA, PL.keyOf, getK, getAll, setAll, setK, distinct, List.map_cons, List.map_nil, List.length_cons, List.length_nil, List.replicate, List.cons_append, List.nil_append, List.append_nil, List.getElem?_cons_zero, List.getElem?_cons_succ, List.getElem?_nil, List.set_cons_zero, List.set_cons_succ, List.filterMap_cons, List.filterMap_nil, Option.bind_some, Option.map_some, Option.elim_some, if_true, if_false, Nat.reduceAdd, Nat.reduceSub, Nat.reduceEqDiff, Nat.reduceLeDiff, ↓reduceIte, Bool.false_eq_true, at0, at1, at2, at3, pEq, pNe, eqB_int, Option.some.injEq, decide_true, decide_false, not_true_eq_false, not_false_eq_true, Bool.and_true, ne_eq, reduceCtorEq, Bool.true_eq_false, Bool.not_true, Bool.not_false, frz, noEx, wipeS, wipeR, backS, backR, keepV, oComp, gFor, iAny, iRange1, iRange2, iRange3, iRangeW1, iRangeW2, eCallQ, oRgW2, oRgW, pInt1, iEnumQ, eDct, iTxt, eFld, eMake, gSetFld, eFldM, eTupV, putP, eLenSet, gFrz, Nat.reduceLT, oRg2, oRg1, oRg, tYesD, pIn, pNotIn, eSl, pNo, pSo, forL_nil, gApp, gParO, List.not_mem_nil, List.not_mem_nil, eq_self, not_true_eq_false, not_false_eq_true, ix30, ix31, ix32, Bool.and_self, and_self, and_true, true_and])
/-! ### accesses -/
end PM
/-! PCR: plain maths of the crossing of two rows of lanes. -/
namespace PM
open PySem PySem.Spec PyProof.Rows L2 PL PN
/-- the least and the greatest t for which a + k * t lies from 0 to m - 1 -/
def rLo (a k m : Int) : Int := if k < 0 then -((m - 1 - a) / -k) else -(a / k)
def rHi (a k m : Int) : Int := if k < 0 then (m - 1 - (m - 1 - a)) / -k else (m - 1 - a) / k
end PM
/-! PCN: plain maths of pairs of lanes counted; statements that touch. -/
namespace PM
open PySem PySem.Spec PyProof.Rows L2 PL PN
/-! ### statements that touch -/
structure Ac where
  w : Bool
  z : Str
  a : Int
  b : Int
def Stm.val (x : Stm) : Option (Int × Int) := match x.k with
  | .put c d => some (c, d)
  | _ => none
/-! ### the same far out -/
end PM
/-! PCW: bezout of any two numbers; the crossing of two rows, walked. -/
namespace PM
open PySem PySem.Spec PyProof.Rows L2 PL PN
local macro_rules | `(tactic| walk_at "ev") => `(tactic| try simp only [mOf, endF, start0, gSeq, gNop, gAsg, gRet, gRetO, gAsgO, gDrop, gIf, gOpt, gPar, gPar3, gAug, aName, asNil, asCons, aTup, aLst, setV, setO, eVar, eC, eBin, eUn, eTup, aNil, aCons, oLst, frz, eCall, oCall, avN, avK, permL, lNil, lPv, lSl, tOf, tTru, tNt, tAn, tOrr, eIf, eAn, eOr, eNt, eChain, eCallB, eIxM, gSetIx, getM, pTru, pAdd, pSub, pMul, pFdiv, pMod, pPow, pNeg, pLt, pLe, pGt, pGe, pIs, pIsNot, pAddI, pIx, pLen, pAbs, pMax2, pMin2, Res.bind_ok, Res.bind_ex, Res.bind_stuck, Res.fl_ok, Res.fl_ex, Res.fl_stuck, Res.opt_some, Res.opt_none, lowerA, PL.keyOf, getK, getAll, setAll, setK, distinct, List.map_cons, List.map_nil, List.length_cons, List.length_nil, List.replicate, List.cons_append, List.nil_append, List.append_nil, List.getElem?_cons_zero, List.getElem?_cons_succ, List.getElem?_nil, List.set_cons_zero, List.set_cons_succ, List.filterMap_cons, List.filterMap_nil, Option.bind_some, Option.map_some, Option.elim_some, if_true, if_false, Nat.reduceAdd, Nat.reduceSub, Nat.reduceEqDiff, Nat.reduceLeDiff, ↓reduceIte, Bool.false_eq_true, at0, at1, at2, at3, pEq, pNe, eqB_int, Option.some.injEq, decide_true, decide_false, not_true_eq_false, not_false_eq_true, Bool.and_true, ne_eq, reduceCtorEq, Bool.true_eq_false, Bool.not_true, Bool.not_false, frz, noEx, wipeS, wipeR, backS, backR, keepV, oComp, gFor, iAny, iRange1, iRange2, iRange3, iRangeW1, iRangeW2, eCallQ, oRgW2, oRgW, pInt1, iEnumQ, eDct, iTxt, eFld, eMake, gSetFld, eFldM, eTupV, putP, eLenSet, gFrz, Nat.reduceLT, oRg2, oRg1, oRg, tYesD, pIn, pNotIn, eSl, pNo, pSo, forL_nil, gApp, gParO, List.not_mem_nil, List.not_mem_nil])
local macro_rules | `(tactic| walk_at "evs") => `(tactic| simp only [*, mOf, endF, start0, gSeq, gNop, gAsg, gRet, gRetO, gAsgO, gDrop, gIf, gOpt, gPar, gPar3, gAug, aName, asNil, asCons, aTup, aLst, setV, setO, eVar, eC, eBin, eUn, eTup, aNil, aCons, oLst, frz, eCall, oCall, avN, avK, permL, lNil, lPv, lSl, tOf, tTru, tNt, tAn, tOrr, eIf, eAn, eOr, eNt, eChain, eCallB, eIxM, gSetIx, getM, pTru, pAdd, pSub, pMul, pFdiv, pMod, pPow, pNeg, pLt, pLe, pGt, pGe, pIs, pIsNot, pAddI, pIx, pLen, pAbs, pMax2, pMin2, Res.bind_ok, Res.bind_ex, Res.bind_stuck, Res.fl_ok, Res.fl_ex, Res.fl_stuck, Res.opt_some, Res.opt_none, lowerA, PL.keyOf, getK, getAll, setAll, setK, distinct, List.map_cons, List.map_nil, List.length_cons, List.length_nil, List.replicate, List.cons_append, List.nil_append, List.append_nil, List.getElem?_cons_zero, List.getElem?_cons_succ, List.getElem?_nil, List.set_cons_zero, List.set_cons_succ, List.filterMap_cons, List.filterMap_nil, Option.bind_some, Option.map_some, Option.elim_some, if_true, if_false, Nat.reduceAdd, Nat.reduceSub, Nat.reduceEqDiff, Nat.reduceLeDiff, ↓reduceIte, Bool.false_eq_true, at0, at1, at2, at3, pEq, pNe, eqB_int, Option.some.injEq, decide_true, decide_false, not_true_eq_false, not_false_eq_true, Bool.and_true, ne_eq, reduceCtorEq, Bool.true_eq_false, Bool.not_true, Bool.not_false, frz, noEx, wipeS, wipeR, backS, backR, keepV, oComp, gFor, iAny, iRange1, iRange2, iRange3, iRangeW1, iRangeW2, eCallQ, oRgW2, oRgW, pInt1, iEnumQ, eDct, iTxt, eFld, eMake, gSetFld, eFldM, eTupV, putP, eLenSet, gFrz, Nat.reduceLT, oRg2, oRg1, oRg, tYesD, pIn, pNotIn, eSl, pNo, pSo, forL_nil, gApp, gParO, List.not_mem_nil, List.not_mem_nil, eq_self, not_true_eq_false, not_false_eq_true, ix30, ix31, ix32, Bool.and_self, and_self, and_true, true_and])
/-! ### bezout of any two numbers -/
structure BzG (a b B f s x y : Int) : Prop where
  f0 : 0 < f
  s0 : 0 ≤ s
  dv : ∀ d, d ∣ f → d ∣ s → d ∣ a ∧ d ∣ b
  u1 : ∃ u, f = a * x + b * u
  u2 : ∃ u, s = a * y + b * u
  sg : ∃ e X Y : Int, (e = 1 ∨ e = -1) ∧ x = e * X ∧ y = -(e * Y) ∧ 0 ≤ X ∧ 0 ≤ Y ∧ X ≤ B ∧ X * s + Y * f = B
theorem BzG.next {a b B f s x y : Int} (i : BzG a b B f s x y) (hs : 0 < s) : BzG a b B s (f - f / s * s) y (x - f / s * y) := by
  have hm : f - f / s * s = f % s := by rw [Int.emod_def, Int.mul_comm]
  have t0 : 0 ≤ f / s := Int.ediv_nonneg (Int.le_of_lt i.f0) i.s0
  refine ⟨hs, ?_, ?_, i.u2, ?_, ?_⟩
  · rw [hm]; exact Int.emod_nonneg _ (by omega)
  · intro d h1 h2
    refine i.dv d ?_ h1
    have : f = (f - f / s * s) + f / s * s := by omega
    rw [this]
    exact Int.dvd_add h2 ((show d ∣ f / s * s from Int.dvd_trans h1 (Int.dvd_mul_left _ _)))
  · obtain ⟨u, hu⟩ := i.u1
    obtain ⟨v, hv⟩ := i.u2
    refine ⟨u - f / s * v, ?_⟩
    generalize f / s = t at *
    subst hu hv
    grind
  · obtain ⟨e, X, Y, he, hx, hy, hX, hY, hb, hq⟩ := i.sg
    refine ⟨-e, Y, X + f / s * Y, by omega, by grind, ?_, hY, ?_, ?_, ?_⟩
    · generalize f / s = t at *
      subst hx hy
      grind
    · have := Int.mul_nonneg t0 hY; omega
    · have h1 : 0 ≤ X * s := Int.mul_nonneg hX i.s0
      have h2 : Y * 1 ≤ Y * f := Int.mul_le_mul_of_nonneg_left i.f0 hY
      omega
    · generalize f / s = t at *
      grind
end PM
/-! PCX: the crossing of two rows, walked. -/
namespace PM
open PySem PySem.Spec PyProof.Rows L2 PL PN
local macro_rules | `(tactic| walk_at "ev") => `(tactic| try simp only [mOf, endF, start0, gSeq, gNop, gAsg, gRet, gRetO, gAsgO, gDrop, gIf, gOpt, gPar, gPar3, gAug, aName, asNil, asCons, aTup, aLst, setV, setO, eVar, eC, eBin, eUn, eTup, aNil, aCons, oLst, frz, eCall, oCall, avN, avK, permL, lNil, lPv, lSl, tOf, tTru, tNt, tAn, tOrr, eIf, eAn, eOr, eNt, eChain, eCallB, eIxM, gSetIx, getM, pTru, pAdd, pSub, pMul, pFdiv, pMod, pPow, pNeg, pLt, pLe, pGt, pGe, pIs, pIsNot, pAddI, pIx, pLen, pAbs, pMax2, pMin2, Res.bind_ok, Res.bind_ex, Res.bind_stuck, Res.fl_ok, Res.fl_ex, Res.fl_stuck, Res.opt_some, Res.opt_none, lowerA, PL.keyOf, getK, getAll, setAll, setK, distinct, List.map_cons, List.map_nil, List.length_cons, List.length_nil, List.replicate, List.cons_append, List.nil_append, List.append_nil, List.getElem?_cons_zero, List.getElem?_cons_succ, List.getElem?_nil, List.set_cons_zero, List.set_cons_succ, List.filterMap_cons, List.filterMap_nil, Option.bind_some, Option.map_some, Option.elim_some, if_true, if_false, Nat.reduceAdd, Nat.reduceSub, Nat.reduceEqDiff, Nat.reduceLeDiff, ↓reduceIte, Bool.false_eq_true, at0, at1, at2, at3, pEq, pNe, eqB_int, Option.some.injEq, decide_true, decide_false, not_true_eq_false, not_false_eq_true, Bool.and_true, ne_eq, reduceCtorEq, Bool.true_eq_false, Bool.not_true, Bool.not_false, frz, noEx, wipeS, wipeR, backS, backR, keepV, oComp, gFor, iAny, iRange1, iRange2, iRange3, iRangeW1, iRangeW2, eCallQ, oRgW2, oRgW, pInt1, iEnumQ, eDct, iTxt, eFld, eMake, gSetFld, eFldM, eTupV, putP, eLenSet, gFrz, Nat.reduceLT, oRg2, oRg1, oRg, tYesD, pIn, pNotIn, eSl, pNo, pSo, forL_nil, gApp, gParO, List.not_mem_nil, List.not_mem_nil])
local macro_rules | `(tactic| walk_at "evs") => `(tactic| simp only [*, mOf, endF, start0, gSeq, gNop, gAsg, gRet, gRetO, gAsgO, gDrop, gIf, gOpt, gPar, gPar3, gAug, aName, asNil, asCons, aTup, aLst, setV, setO, eVar, eC, eBin, eUn, eTup, aNil, aCons, oLst, frz, eCall, oCall, avN, avK, permL, lNil, lPv, lSl, tOf, tTru, tNt, tAn, tOrr, eIf, eAn, eOr, eNt, eChain, eCallB, eIxM, gSetIx, getM, pTru, pAdd, pSub, pMul, pFdiv, pMod, pPow, pNeg, pLt, pLe, pGt, pGe, pIs, pIsNot, pAddI, pIx, pLen, pAbs, pMax2, pMin2, Res.bind_ok, Res.bind_ex, Res.bind_stuck, Res.fl_ok, Res.fl_ex, Res.fl_stuck, Res.opt_some, Res.opt_none, lowerA, PL.keyOf, getK, getAll, setAll, setK, distinct, List.map_cons, List.map_nil, List.length_cons, List.length_nil, List.replicate, List.cons_append, List.nil_append, List.append_nil, List.getElem?_cons_zero, List.getElem?_cons_succ, List.getElem?_nil, List.set_cons_zero, List.set_cons_succ, List.filterMap_cons, List.filterMap_nil, Option.bind_some, Option.map_some, Option.elim_some, if_true, if_false, Nat.reduceAdd, Nat.reduceSub, Nat.reduceEqDiff, Nat.reduceLeDiff, ↓reduceIte, Bool.false_eq_true, at0, at1, at2, at3, pEq, pNe, eqB_int, Option.some.injEq, decide_true, decide_false, not_true_eq_false, not_false_eq_true, Bool.and_true, ne_eq, reduceCtorEq, Bool.true_eq_false, Bool.not_true, Bool.not_false, frz, noEx, wipeS, wipeR, backS, backR, keepV, oComp, gFor, iAny, iRange1, iRange2, iRange3, iRangeW1, iRangeW2, eCallQ, oRgW2, oRgW, pInt1, iEnumQ, eDct, iTxt, eFld, eMake, gSetFld, eFldM, eTupV, putP, eLenSet, gFrz, Nat.reduceLT, oRg2, oRg1, oRg, tYesD, pIn, pNotIn, eSl, pNo, pSo, forL_nil, gApp, gParO, List.not_mem_nil, List.not_mem_nil, eq_self, not_true_eq_false, not_false_eq_true, ix30, ix31, ix32, Bool.and_self, and_self, and_true, true_and])
section
variable {st st1 s1 s2 : Stt} {fa fb fc : Stt → Res PV} {p q r : PV} {i j k : Int}
theorem lt_t (ha : fa st = .ok (.int i) st) (hb : fb st = .ok (.int j) st) : tOf (eBin pLt fa fb) st = .ok (decide (i < j)) st := by
  simp only [tOf, eBin, ha, hb, Res.bind_ok, pLt, Res.opt_some]
theorem gt_t (ha : fa st = .ok (.int i) st) (hb : fb st = .ok (.int j) st) : tOf (eBin pGt fa fb) st = .ok (decide (i > j)) st := by
  simp only [tOf, eBin, ha, hb, Res.bind_ok, pGt, Res.opt_some]
theorem an_t {f g : Stt → Res Bool} {b c : Bool} (h : f st = .ok b st) (k : g st = .ok c st) : tAn f g st = .ok (b && c) st := by
  cases b <;> simp only [tAn, h, k, Res.bind_ok, Bool.false_eq_true, if_false, if_true, Bool.true_and, Bool.false_and]
theorem if_yes {ft : Stt → Res Bool} {g h : Stt → Fl} (t : ft st = .ok true st1) : gIf ft g h st = g st1 := by
  simp only [gIf, t, Res.fl, if_true]
theorem acons_at {fs : Stt → Res (List PV)} {l : List PV} (h1 : fa st = .ok p s1) (h2 : fs s1 = .ok l s2) : aCons fa fs st = .ok (p :: l) s2 := by
  unfold aCons
  rw [h1]
  simp only [Res.bind_ok, h2]
theorem tup_at {fl : Stt → Res (List PV)} {l : List PV} (ha : fl st = .ok l s1) (h : l.length ≤ 16777216) : eTup fl st = .ok (.tup l) s1 := by
  unfold eTup
  rw [ha]
  simp only [Res.bind_ok]
  rw [if_pos h]
theorem callB1_at {op : List PV → Option PV} (ha : fa st = .ok p st) (h : op [p] = some r) : eCallB op (aCons fa aNil) st = .ok r st := by
  have q : aCons fa aNil st = .ok [p] st := acons_at ha rfl
  unfold eCallB
  rw [q]
  simp only [Res.bind_ok, h, Res.opt_some]
theorem one_nx {g : Stt → Fl} (h : g st = .nx s1) : gSeq g gNop st = .nx s1 := by
  rw [seq_nx h]
  rfl
theorem comp_at {vs : List Nat} {fi : Stt → Res (List PV)} {a : PV → Stt → Option Stt} {ft : Stt → Res Bool} {fe : Stt → Res PV} {l out : List PV} (hi : fi st = .ok l st) (h : compL vs a ft fe l [] (wipeS vs st) = .ok out s1) (hb : backS vs st s1 = s2) : frz (oComp vs fi a ft fe) st = .ok (.lst out) s2 := by
  unfold frz oComp
  rw [hi]
  simp only [Res.bind_ok, h, noEx, hb]
end
theorem up {x : Int} {m n : Nat} (h : x.natAbs < 2 ^ m) (hn : m ≤ n) : x.natAbs < 2 ^ n := Nat.lt_of_lt_of_le h (Nat.pow_le_pow_right (by decide) hn)
section
variable {g1 g2 : PV} {a b a2 b2 f1 s1 m1 f2 s2 m2 T1 T2 P d f x y xs ys : Int}
def bl (x xs m1 y ys m2 : Int) : List PV := (if xs = 0 then [] else [.tup [.int (rLo x xs m1), .int (rHi x xs m1)]]) ++ (if ys = 0 then [] else [.tup [.int (rLo y ys m2), .int (rHi y ys m2)]])
end
end PM
/-! PL50: comprehensions over mapped lists, loops over them. -/
namespace PM
open PySem PySem.Spec PyProof.Rows L2 PL PN
/-- the elements of a comprehension that keeps what asks for it -/
theorem compL_F {α : Type} {vs : List Nat} {a : PV → Stt → Option Stt} {ft : Stt → Res Bool} {fe : Stt → Res PV} {s : Stt} (g f : α → PV) (q : α → Bool) : ∀ (l : List α) (acc : List PV), acc.length + l.length ≤ 16777216 →
    (∀ x ∈ l, ∃ s1 s2, a (g x) s = some s1 ∧ ft s1 = .ok (q x) s2 ∧ (q x = false → wipeS vs s2 = s) ∧ (q x = true → ∃ s3, fe s2 = .ok (f x) s3 ∧ wipeS vs s3 = s)) →
    compL vs a ft fe (l.map g) acc s = .ok (acc ++ (l.filter q).map f) s
  | [], acc, _, _ => by simp [compL]
  | x :: r, acc, hl, h => by
    rw [List.length_cons] at hl
    obtain ⟨s1, s2, e1, e2, e3, e4⟩ := h x List.mem_cons_self
    rw [List.map_cons, compL_cons _ _ _ _ _ _ _ _ _ e1, e2, List.filter_cons]
    by_cases c : q x = true
    · obtain ⟨s3, e5, e6⟩ := e4 c
      rw [if_pos c]
      simp only [Res.bind_ok, c, if_true, e5]
      rw [if_pos (by omega), e6, compL_F g f q r (acc ++ [f x]) (by rw [List.length_append, List.length_singleton]; omega) fun y hy => h y (List.mem_cons_of_mem _ hy)]
      simp
    · have c := Bool.eq_false_iff.mpr c
      rw [c]
      simp only [Res.bind_ok, Bool.false_eq_true, if_false]
      rw [e3 c, compL_F g f q r acc (by omega) fun y hy => h y (List.mem_cons_of_mem _ hy)]
theorem filter_yes {α : Type} (l : List α) : l.filter (fun _ => true) = l := List.filter_eq_self.mpr fun _ _ => rfl
theorem compL_M {α : Type} {vs : List Nat} {a : PV → Stt → Option Stt} {fe : Stt → Res PV} {s : Stt} (g f : α → PV) (l : List α) (hl : l.length ≤ 16777216)
    (h : ∀ x ∈ l, ∃ s1, a (g x) s = some s1 ∧ ∃ s3, fe s1 = .ok (f x) s3 ∧ wipeS vs s3 = s) : compL vs a tYesD fe (l.map g) [] s = .ok (l.map f) s := by
  have := compL_F (vs := vs) (a := a) (ft := tYesD) (fe := fe) (s := s) g f (fun _ => true) l [] (by rw [List.length_nil]; omega) fun x hx => by
    obtain ⟨s1, e1, s3, e2, e3⟩ := h x hx
    exact ⟨s1, s1, e1, rfl, fun c => (Bool.noConfusion c), fun _ => ⟨s3, e2, e3⟩⟩
  rw [this, filter_yes, List.nil_append]
end PM
/-! PCY: crossing_of. -/
namespace PM
open PySem PySem.Spec PyProof.Rows L2 PL PN
/-- a guard and a cell of bounded size -/
structure AccB (l h s r a b : Int) : Prop where
  g : isGuard l h s r = true
  bh : h.natAbs < 2 ^ 1000
  bs : s.natAbs < 2 ^ 1000
  ba : a.natAbs < 2 ^ 1000
  bb : b.natAbs < 2 ^ 1000
end PM
/-! PCT: pairs counted, accesses and statements that touch. -/
namespace PM
open PySem PySem.Spec PyProof.Rows L2 PL PN
section
variable {l1 h1 s1 r1 a b l2 h2 s2 r2 a2 b2 c d c2 d2 : Int}
theorem AccB.s0 {l h s r a b : Int} (p : AccB l h s r a b) : 0 < s ∧ 0 ≤ r ∧ r < s := by
  obtain ⟨l0, lh, r0, r1⟩ := guard_iff.mp p.g
  omega
end
end PM
/-! PCT2: accesses and statements that touch. -/
namespace PM
open PySem PySem.Spec PyProof.Rows L2 PL PN
def Ac.word (p : Ac) : Str := if p.w then "write" else "read"
def Ac.pv (i : Int) (p : Ac) : PV := .tup [.int i, .str p.word, .str p.z, .int p.a, .int p.b]
/-! ### two fors -/
end PM
/-! PMW: the mirrors of written.py (gen.py --pm prints them at the end of PM). -/
namespace PM
open PySem PySem.Spec PyProof.Rows L2 PL
end PM
/-! PLX1: try: body / except x as n: suite, where the exception's object is kept behind the suite: from then on it is tracked. -/
namespace L2
open PySem PySem.Spec PyProof.Rows
section
variable {X : Cx} {pins : List (Addr × Obj)} {σ : St} {H : Hp} {s : Shared}
/-- an object that stands there already, made since the entry, is tracked from now on -/
theorem Inv.track {a : Addr} {o : HO} (I : Inv X pins σ H s) (hn : H a = none) (new : ObjOk X.prog X.w (upd H a o) s.heap a o) (h0 : X.s_0.heap.get? a = none) (nL : a ≠ X.env.locals) (nC : ∀ x c, X.env.cells.lookup x = some c → c ≠ a)
    (np : ∀ p ∈ X.pn ++ pins, p.1 ≠ a) : Inv X pins σ (upd H a o) s := by
  have ne0 : ∀ b u, X.s_0.heap.get? b = some u → b ≠ a := fun b u e z => by
    rw [z, h0] at e
    cases e
  refine ⟨I.ok, I.os, I.bare, ⟨I.base.keep, I.base.slot, fun b u e n hx => ?_, I.base.there, fun b xs e => ?_, fun b u xs e => ?_, fun b ps e => ?_⟩, I.loc, I.cell, ?_, fun x c e => ?_, fun p hp => ?_, I.hok.laidN (fun _ _ h => h) hn new, I.len⟩
  · rw [upd_ne (ne0 b u e)]
    exact I.base.free b u e n hx
  · have q := I.base.tups b xs e
    rw [upd_ne (ne_of_none q hn)]
    exact q
  · have q := I.base.frzs b u xs e
    rw [upd_ne (ne_of_none q hn)]
    exact q
  · obtain ⟨m, q⟩ := I.base.tbls b ps e
    exact ⟨m, by rw [upd_ne (ne_of_none q hn)]; exact q⟩
  · rw [upd_ne (Ne.symm nL)]
    exact I.free
  · rw [upd_ne (nC x c e)]
    exact I.freeC x c e
  · obtain ⟨e, n, r⟩ := I.pin p hp
    exact ⟨e, by rw [upd_ne (np p hp)]; exact n, r⟩
end
end L2
/-! PLX2: an exception object as a value (PV.exi): caught and kept, isinstance, .value. -/
namespace L2
open PySem PySem.Spec PyProof.Rows
section
variable {X : Cx} {pins : List (Addr × Obj)} {σ : St} {H : Hp} {s : Shared}
theorem exi_inst {a D dd : Addr} {fs : List (Str × V)} (I : Inv X pins σ H s) (h1 : H a = some (PL.ExV (.ref D) dd a)) (h2 : H dd = some (.xd fs)) :
    ∃ oe od, PySem.W.InstAt s.heap a oe D (some od) ∧ ∀ f v, fs.lookup f = some v → ∃ u, RelV v u ∧ PySem.W.lookIn f od = some (some u) := by
  obtain ⟨⟨oe, vs, e1, hz, hd⟩, _, _⟩ := I.hok a _ h1
  obtain ⟨mA, hns, hr⟩ := I.hok dd _ h2
  obtain ⟨od, ho, hl⟩ := lookIn_ns hns
  refine ⟨oe, od, ⟨e1, hz.1, by unfold PySem.W.notCls; rw [hd] <;> rfl, by rw [hz.2]; exact ho⟩, fun f v hf => ?_⟩
  obtain ⟨u, hu, ru⟩ := RelO.some_of (v := v) (o := mA f) (by rw [← hf]; exact hr f)
  exact ⟨u, ru, by rw [hl, hu]⟩
theorem exi_kit {x D : Addr} {ox : Obj} {od : Option Obj} {K : PySem.W.Frag} (C : L2.ExcC K D) : PySem.W.KitX K (.ref x) (.ref D) (fun h => PySem.W.InstAt h x ox D od) := by
  obtain ⟨cd, hc, _⟩ := PySem.W.any_some C.hd
  refine PySem.W.kitx_exc (by rw [hc] <;> rfl) C.hg C.hk C.hs C.ha C.hn C.ht C.hm
/-- isinstance(e, c), e an exception object -/
def rIsX (K : PySem.W.Frag) : List V → Hp → VK → Prop := fun xs H Q => ∃ (a D dd : Addr) (fs : List (Str × V)) (c : V) (u : Value) (b : Bool), xs = [.ref a, c] ∧ ClsV c u ∧ H a = some (PL.ExV (.ref D) dd a) ∧ H dd = some (.xd fs) ∧ L2.ExcC K D ∧ PySem.W.kitOne K (.ref D) u = some b ∧ Q (.bl b) H
theorem call_isX : CallR X (.builtin "isinstance") (rIsX X.K) := by
  intro pins s σ H xs us Q I r h
  obtain ⟨a, D, dd, fs, c, u, b, rfl, k, h1, h2, hc, e, q⟩ := h
  obtain ⟨u1, u2, rfl, r1, r2⟩ := vals2 r
  have e2 := k.eq r2
  subst e2
  cases (show u1 = Value.ref a from r1)
  obtain ⟨oe, od, J, _⟩ := exi_inst I h1 h2
  exact PySem.W.kia_one (exi_kit hc) I.kIn J e (fun z => nomatch z) fun tk => ⟨.bl b, H, I.tok tk, rfl, q⟩
/-- e.n of an exception object -/
def tXv (K : PySem.W.Frag) (n : Str) (te : TE) : TE := fun σ H Q => te σ H fun x H1 => ∃ (a D dd : Addr) (fs : List (Str × V)) (v : V), x = .ref a ∧ H1 a = some (PL.ExV (.ref D) dd a) ∧ H1 dd = some (.xd fs) ∧ XfC K D ∧ PySem.W.findIn K (.ref D) n = some none ∧ fs.lookup n = some v ∧ Q v H1
theorem pe_xv {e : Expr} {te : TE} {pos : Pos} {n : Str} (he : PE X e te) (hb : attributeBase e n X.env (eval e X.env) = eval e X.env := by rfl) : PE X (.Attribute e n pos) (tXv X.K n te) := by
  refine ⟨fun pins s σ H Q I h => ?_⟩
  refine attr_of hb (thn (he.run pins s σ H _ I h) fun u s1 hh => ?_)
  obtain ⟨x, H1, I1, rx, a, D, dd, fs, v, rfl, h1, h2, T, hno, l, q⟩ := hh
  obtain rfl : u = Value.ref a := rx
  obtain ⟨oe, od, J, hl⟩ := exi_inst I1 h1 h2
  obtain ⟨w, rw_, lw⟩ := hl n v l
  exact HandSPX.exc_get I1.kIn J T.ga T.gg T.exC (PySem.W.findObj_own T.hdC hno rfl lw) (handed_of rw_) ⟨v, H1, I1.tok _, rw_, q⟩
end
end L2
namespace PL
open PySem PySem.Spec PyProof.Rows L2
/-! ### the classes -/
def errNames : List Str := ["InvalidGuard", "InvalidLanes", "InvalidStatement", "InvalidBarrier", "InvalidAccess", "InvalidNumber", "InvalidArray", "InvalidSchedule", "UnlikeLanes", "Racing", "NotPlain", "NothingToUndo", "Unreadable", "StrideError"]
def tgNames : List Str := ("ValueError" : Str) :: errNames
def exSub (c t : Str) : Bool := c == t || t == "StrideError" || t == "ValueError"
def clsU (cl : Str → Addr) (t : Str) : Value := if t = "ValueError" then .type "ValueError" else .ref (cl t)
/-- what is told of the error classes -/
structure ErrK (K : PySem.W.Frag) (cl : Str → Addr) : Prop where
  one : ∀ c ∈ errNames, ∀ t ∈ tgNames, PySem.W.kitOne K (.ref (cl c)) (clsU cl t) = some (exSub c t)
  exc : ∀ c ∈ errNames, L2.ExcC K (cl c)
  xf : ∀ c ∈ errNames, XfC K (cl c)
  val : ∀ c ∈ errNames, PySem.W.findIn K (.ref (cl c)) "value" = some none
  exm : ∀ c ∈ errNames, PySem.W.exmOne K (.ref (cl c)) (.ref (cl "StrideError")) = some true
def excB (K : PySem.W.Frag) (D : Addr) : Bool :=
  xfB K D && (decide (PySem.W.findIn K (.ref D) "__class__" = some (some (.builtin "object.__class__"))) && (decide (PySem.W.mroIn K D (.type "object") = some true) && decide (PySem.W.findIn K (.ref D) "value" = some none)))
def errKB (K : PySem.W.Frag) (cl : Str → Addr) : Bool :=
  (decide (PySem.W.specialIn K (.builtin "object.__class__") "__get__" = some (some (.builtin "getset_descriptor.__get__"))) && decide (PySem.W.takesIn K (.builtin "object.__class__") = some true)) &&
  errNames.all fun c => excB K (cl c) && (decide (PySem.W.exmOne K (.ref (cl c)) (.ref (cl "StrideError")) = some true) && tgNames.all fun t => decide (PySem.W.kitOne K (.ref (cl c)) (clsU cl t) = some (exSub c t)))
theorem errKB_ok {K : PySem.W.Frag} {cl : Str → Addr} (h : errKB K cl = true) : ErrK K cl := by
  unfold errKB at h
  rw [Bool.and_eq_true, Bool.and_eq_true, List.all_eq_true] at h
  obtain ⟨⟨h1, h2⟩, h3⟩ := h
  have h1 := of_decide_eq_true h1
  have h2 := of_decide_eq_true h2
  have k : ∀ c ∈ errNames, excB K (cl c) = true ∧ PySem.W.exmOne K (.ref (cl c)) (.ref (cl "StrideError")) = some true ∧ ∀ t ∈ tgNames, PySem.W.kitOne K (.ref (cl c)) (clsU cl t) = some (exSub c t) := fun c hc => by
    have z := h3 c hc
    rw [Bool.and_eq_true, Bool.and_eq_true, List.all_eq_true] at z
    exact ⟨z.1, of_decide_eq_true z.2.1, fun t ht => of_decide_eq_true (z.2.2 t ht)⟩
  have e : ∀ c ∈ errNames, XfC K (cl c) ∧ PySem.W.findIn K (.ref (cl c)) "__class__" = some (some (.builtin "object.__class__")) ∧ PySem.W.mroIn K (cl c) (.type "object") = some true ∧ PySem.W.findIn K (.ref (cl c)) "value" = some none := fun c hc => by
    have z := (k c hc).1
    unfold excB at z
    rw [Bool.and_eq_true, Bool.and_eq_true, Bool.and_eq_true] at z
    exact ⟨xfB_ok z.1, of_decide_eq_true z.2.1, of_decide_eq_true z.2.2.1, of_decide_eq_true z.2.2.2⟩
  exact ⟨fun c hc => (k c hc).2.2, fun c hc => ⟨(e c hc).1.ga, (e c hc).1.gg, (e c hc).1.exC, (e c hc).1.hdC, (e c hc).2.1, h1, h2, (e c hc).2.2.1⟩, fun c hc => (e c hc).1, fun c hc => (e c hc).2.2.2, fun c hc => (k c hc).2.1⟩
theorem ErrK.sw {K : PySem.W.Frag} {c0 c1 : Str → Addr} (e : ∀ c ∈ errNames, c1 c = c0 c) (T : ErrK K c0) : ErrK K c1 := by
  have eu : ∀ t ∈ tgNames, clsU c1 t = clsU c0 t := fun t ht => by
    unfold clsU
    split
    · rfl
    · rename_i z
      rcases List.mem_cons.mp ht with h | h
      · exact absurd h z
      · rw [e t h]
  refine ⟨fun c hc t ht => ?_, fun c hc => ?_, fun c hc => ?_, fun c hc => ?_, fun c hc => ?_⟩
  · rw [e c hc, eu t ht]; exact T.one c hc t ht
  · rw [e c hc]; exact T.exc c hc
  · rw [e c hc]; exact T.xf c hc
  · rw [e c hc]; exact T.val c hc
  · rw [e c hc, e _ (by decide)]; exact T.exm c hc
theorem errK_clT {K : PySem.W.Frag} {B : List (Str × Addr)} {c0 : Str → Addr} (h : errKB K c0 = true) : ErrK K (clT B c0) :=
  (errKB_ok h).sw fun c hc => by
    unfold clT
    have no : ∀ c ∈ errNames, c ∉ tabNames.map tabKey := by decide +kernel
    rw [if_neg (no c hc)]
/-! ### the rules -/
section
variable {X : Cx} {C : Fx} {W : WX} {e : Expr} {pos : Pos} {fe : Stt → Res PV} {body : List Stmt} {gb : Stt → Fl}
/-- isinstance(e, t) / isinstance(e, (t1, ..)) of an exception object -/
def eIsX (ts : List Str) (fe : Stt → Res PV) : Stt → Res PV := fun s => (fe s).bind fun p s1 => match p with
  | .exi c _ => if c ∈ errNames then .ok (.bl (ts.any (exSub c))) s1 else .stuck
  | _ => .stuck
theorem dv_isX {t x : Str} {p p2 : Pos} (T : ErrK X.K C.cl) (ht : t ∈ errNames) (he : DV X C W e fe) (hg : Gl X "isinstance") (hm : X.mg "isinstance" = none) (hgC : Gl X x) (hmC : X.mg x = some (.ref (C.cl t)))
    (h1 : starEach [e, .Name x p2] X.env = (false, eval e X.env) :: starEach [.Name x p2] X.env := by rfl) (h2 : starEach [.Name x p2] X.env = (false, eval (.Name x p2) X.env) :: starEach [] X.env := by rfl) (hpl : (backTo pos (starEach [.Name x p2] X.env)).any (·.1) = false := by rfl) (hd : (x == ("__debug__" : Str)) = false := by decide) :
    DV X C W (.Call (.Name "isinstance" p) [e, .Name x p2] [] pos) (eIsX [t] fe) := by
  obtain ⟨te, pe, qe⟩ := he.pr
  refine ⟨_, pe_callB call_isX hg hm (by first | rfl | kernel_rfl | decide +kernel) (pa_cons pe (pa_cons (pe_glob (v := .ref (C.cl t)) hgC hmC rfl hd) pa_nil h2) h1) (he := h1) (hpl := hpl), fun F A H σ s Q ok pp => ?_⟩
  refine qe F A H σ s _ ok (pp.seq fun q1 s1 v1 F1 A1 H1 _ o1 st1 r1 p1 => ?_)
  cases r1 with
  | @exi a dx c u pv h3 h4 h5 =>
    simp only at p1
    split at p1
    · rename_i hc
      have k := T.one c hc t (List.mem_cons_of_mem _ ht)
      have nv : t ≠ "ValueError" := fun z => absurd (z ▸ ht) (by decide)
      have ek : clsU C.cl t = .ref (C.cl t) := if_neg nv
      rw [ek] at k
      have e1 : [t].any (exSub c) = exSub c t := by simp
      rw [e1] at p1
      exact ⟨a, _, dx, _, .ref (C.cl t), .ref (C.cl t), _, rfl, .own _, o1.sub _ _ h3, o1.sub _ _ h4, T.exc c hc, k, Post.now o1 p1 (.bl _)⟩
    · exact p1.elim
  | _ => exact p1.elim
theorem dv_isXve {p p2 : Pos} (T : ErrK X.K C.cl) (he : DV X C W e fe) (hg : Gl X "isinstance") (hm : X.mg "isinstance" = none) (hgC : Gl X "ValueError") (hmC : X.mg "ValueError" = none)
    (h1 : starEach [e, .Name "ValueError" p2] X.env = (false, eval e X.env) :: starEach [.Name "ValueError" p2] X.env := by rfl) (h2 : starEach [.Name "ValueError" p2] X.env = (false, eval (.Name "ValueError" p2) X.env) :: starEach [] X.env := by rfl) (hpl : (backTo pos (starEach [.Name "ValueError" p2] X.env)).any (·.1) = false := by rfl) :
    DV X C W (.Call (.Name "isinstance" p) [e, .Name "ValueError" p2] [] pos) (eIsX ["ValueError"] fe) := by
  obtain ⟨te, pe, qe⟩ := he.pr
  refine ⟨_, pe_callB call_isX hg hm (by first | rfl | kernel_rfl | decide +kernel) (pa_cons pe (pa_cons (pe_bltn (v := .ty "ValueError") hgC hmC (by first | rfl | kernel_rfl | decide +kernel) rfl (by decide) (by decide)) pa_nil h2) h1) (he := h1) (hpl := hpl), fun F A H σ s Q ok pp => ?_⟩
  refine qe F A H σ s _ ok (pp.seq fun q1 s1 v1 F1 A1 H1 _ o1 st1 r1 p1 => ?_)
  cases r1 with
  | @exi a dx c u pv h3 h4 h5 =>
    simp only at p1
    split at p1
    · rename_i hc
      have k := T.one c hc "ValueError" List.mem_cons_self
      have e1 : [("ValueError" : Str)].any (exSub c) = exSub c "ValueError" := by simp
      rw [e1] at p1
      exact ⟨a, _, dx, _, .ty "ValueError", .type "ValueError", _, rfl, .ty _, o1.sub _ _ h3, o1.sub _ _ h4, T.exc c hc, k, Post.now o1 p1 (.bl _)⟩
    · exact p1.elim
  | _ => exact p1.elim
/-- e.value -/
def eXv (fe : Stt → Res PV) : Stt → Res PV := fun s => (fe s).bind fun p s1 => match p with
  | .exi c v => if c ∈ errNames then .ok v s1 else .stuck
  | _ => .stuck
theorem dv_xv (T : ErrK X.K C.cl) (he : DV X C W e fe) (hb : attributeBase e "value" X.env (eval e X.env) = eval e X.env := by rfl) : DV X C W (.Attribute e "value" pos) (eXv fe) := by
  obtain ⟨te, pe, qe⟩ := he.pr
  refine ⟨_, pe_xv pe hb, fun F A H σ s Q ok pp => ?_⟩
  refine qe F A H σ s _ ok (pp.seq fun q1 s1 v1 F1 A1 H1 _ o1 st1 r1 p1 => ?_)
  cases r1 with
  | @exi a dx c u pv h3 h4 h5 =>
    simp only at p1
    split at p1
    · rename_i hc
      exact ⟨a, _, dx, _, u, rfl, o1.sub _ _ h3, o1.sub _ _ h4, T.xf c hc, T.val c hc, by simp [List.lookup], Post.now o1 p1 h5⟩
    · exact p1.elim
  | _ => exact p1.elim
/-! ### lists of bools -/
end
end PL
namespace PL
open PySem
end PL
/-! PXK: an own error made by keyword: E(value=v). -/
namespace PXE
open PySem PySem.W PySem.Calls PyProof.Rows PySem.HandSPX PySem.F
section
variable {prog : Program} {w : World} {A : Around} {R : Result → Shared → Prop} {hp : Heap} {gs : Array GenState} {dr : Drawn} {tk : Nat} {os : OsState} {nn q : Str} {C N : Addr} {bs bm : List Value} {hd ab : Bool} {sn : List Str} {sub : List Value} {col : Option Bool} {dd : Option Addr} {k0 k1 k2 k3 k5 : Option Value} {kw : List (Str × Value)}
theorem kw_check {n : Str} {v : Value} {E : Value → Shared → Prop} {Q : Unit → Shared → Prop} (hT : bm.contains (.type "ValueError") = true) (hC : hp.get? C = some (excClassObj nn q C N bs bm hd sn sub ab col dd k0 k1 k2 k3 k5 "ValueError.__new__"))
    (z : Q () ⟨hp, gs, dr, tk, os⟩) : wpAny (model prog w) A (checkBuiltinCall "ValueError.__new__" ⟨[.ref C], [(n, v)]⟩) Q E ⟨hp, gs, dr, tk, os⟩ := by
  have inB : (Value.ref C :: bm).contains (.type "ValueError") = true := by
    rw [List.contains_cons, hT] <;> exact Bool.or_true _
  have FB := excBase_ValueError
  have star := FB.noStar
  simp only [checkBuiltinCall, FB.newKind, FB.newSplit, FB.newRow]
  iterate 40 (try first | refine wpAny_staticBase_exc hC ?_ | refine wpAny_madeBy_exc hC ?_ | refine wpAny_loadPart_at hC ?_ | (refine wpAny_isSubtype_exc hC ?_; rw [inB]) | simp only [bne_self_eq_false, Bool.false_eq_true, if_false] | wp_step)
  exact z
theorem kw_new {n : Str} {v : Value} (hbm : refsVE bm = true) (hC : hp.get? C = some (excClassObj nn q C N bs bm hd sn sub ab col dd k0 k1 k2 k3 k5 "ValueError.__new__"))
    (z : R (.ok (.ret (.ref (hp.objs.size + 1)))) ⟨(hp.push (kdv_tup [])).push (excO C hp.objs.size), gs, dr, tk, os⟩) : codeAny (model prog w) A (.builtin "ValueError.__new__" ⟨[.ref C], [(n, v)]⟩) R ⟨hp, gs, dr, tk, os⟩ := by
  have FB := excBase_ValueError
  have fin := FB.ends
  have inn : ∀ y : String, (Value.ref C :: bm).contains (.type y) = veTail.contains (.type y) := fun y => by
    rw [List.contains_cons, refsVE_contains y bm hbm] <;> rfl
  have y1 : (Value.ref C :: bm).contains (.type "ValueError") = true := (inn _).trans FB.hasB
  have y2 : (Value.ref C :: bm).contains (.type "AttributeError") = false := (inn _).trans FB.noAttr
  have y3 : (Value.ref C :: bm).contains (.type "NameError") = false := (inn _).trans FB.noName
  refine codeAny_builtinAt FB.entry ?_
  unfold Builtin.«BaseException.__new__»
  refine PySem.wpAt_bind ?_
  show PySem.wpAt _ _ _ (stack >>= _) _ _ _
  refine PySem.wpAt_bind (PySem.wpAt_stack fun top rest => PySem.wpAt_of_wpAny ?_)
  wp_walk
  refine PySem.wpAt_of_wpAny ?_
  rw [FB.owner]
  iterate 60 (try first | with_reducible refine wpAny_madeHere_exc FB.canon hC ?_ | with_reducible refine wpAny_loadPart_at hC ?_ | (with_reducible refine wpAny_isSubtype_exc hC ?_; first | rw [y1] | rw [y2] | rw [y3]) | wp_step)
  show R _ _
  rw [Heap.size_push]
  exact z
theorem kw_type {n : Str} {v : Value} {fI : Addr} {E : Value → Shared → Prop} {Q : Fin → Shared → Prop} (hbm : refsVE bm = true) (hC : hp.get? C = some (excClassObj nn q C N bs bm hd sn sub ab col dd k0 k1 k2 k3 k5 "ValueError.__new__"))
    (hi : W.Looks (model prog w) hp (typeLookup (.ref C) "__init__") (some (.ref fI))) (hb : ∀ self, W.Looks (model prog w) hp (bindSpecial (.ref fI) self) (.ref fI, [self]))
    (z : codeAny (model prog w) A (.call (.ref fI) ⟨[.ref (hp.objs.size + 1)], [(n, v)]⟩) (fun r s' => match r with
      | .ok (.ret u) => u = .none ∧ Q (.done (.ret (.ref (hp.objs.size + 1)))) s'
      | .ok _ => False
      | .error e => E e s') ⟨(hp.push (kdv_tup [])).push (excO C hp.objs.size), gs, dr, tk, os⟩) :
    wpAny (model prog w) A (Builtin.«type.__call__» ⟨[.ref C], [(n, v)]⟩) Q E ⟨hp, gs, dr, tk, os⟩ := by
  have FB := excBase_ValueError
  have hT : bm.contains (.type "ValueError") = true := (refsVE_contains "ValueError" bm hbm).trans FB.hasB
  iterate 60 (try first | with_reducible refine wpAny_loadPart_at hC ?_ | with_reducible refine wpAny_madeBy_exc hC ?_ | wp_step)
  refine codeAny_call_builtin_code (Code.quiet_builtin _ FB.quiet) (kw_check hT hC (kw_new hbm hC ?_))
  show wpAny _ _ _ _ _ _
  have up : ∀ b o, hp.get? b = some o → ((hp.push (kdv_tup [])).push (excO C hp.objs.size)).get? b = some o := fun b o e => Heap.get?_push_of_some _ (Heap.get?_push_of_some _ e)
  have hC2 := up _ _ hC
  have own : ((hp.push (kdv_tup [])).push (excO C hp.objs.size)).get? (hp.objs.size + 1) = some (excO C hp.objs.size) := by heap_get
  have self : (Value.ref C :: bm).contains (.ref C) = true := by simp
  have i2 := hi.keeps up
  have b2 := (hb (.ref (hp.objs.size + 1))).keeps up
  unfold isInstance
  iterate 60 (try first | with_reducible refine wpAny_loadPart_at own ?_ | (with_reducible refine wpAny_isSubtype_exc hC2 ?_; rw [self]) | wp_step)
  show wpAny _ _ (typeLookup (.ref C) _) _ _ _
  refine i2.at (wpAny_holding (wpAny_bind (b2.at (wpAny_bind (wpAny_call (codeAny_mono z fun r s' y => ?_))))))
  cases r with
  | error e => exact y
  | ok f =>
    cases f with
    | ret u =>
      obtain ⟨rfl, y⟩ := y
      first
        | exact wpAny_pure (wpAny_pure y)
        | (wp_walk; exact y)
    | next => exact y.elim
    | brk => exact y.elim
    | cont => exact y.elim
theorem kw_call {n : Str} {v : Value} {fI : Addr} (hbm : refsVE bm = true) (hC : hp.get? C = some (excClassObj nn q C N bs bm hd sn sub ab col dd k0 k1 k2 k3 k5 "ValueError.__new__"))
    (hi : W.Looks (model prog w) hp (typeLookup (.ref C) "__init__") (some (.ref fI))) (hb : ∀ self, W.Looks (model prog w) hp (bindSpecial (.ref fI) self) (.ref fI, [self]))
    (z : codeAny (model prog w) (A.under (.builtin "type.__call__" ⟨[.ref C], [(n, v)]⟩)) (.call (.ref fI) ⟨[.ref (hp.objs.size + 1)], [(n, v)]⟩) (W.InitBack (hp.objs.size + 1) R) ⟨(hp.push (kdv_tup [])).push (excO C hp.objs.size), gs, dr, tk, os⟩) :
    codeAny (model prog w) A (.call (.ref C) ⟨[], [(n, v)]⟩) R ⟨hp, gs, dr, tk, os⟩ := by
  have t1 := tc_lookup
  have t2 := tc_bind (.ref C)
  have ty : (⟨hp, gs, dr, tk, os⟩ : Shared).TypeIs (.ref C) "type" := ⟨_, hC, rfl⟩
  refine codeAny_of_tree ?_
  show wpAny _ _ (callAny (.ref C) _) _ _ _
  iterate 60 (try any_goals (first | assumption | with_reducible refine wpAny_loadPart_at hC ?_ | wp_step))
  refine ⟨rfl, ?_⟩
  refine codeAny_call_builtin_at (Code.quiet_builtin _ (by decide +kernel)) entry_typeCall (wpAny_check_type_call_sub hC (kw_type hbm hC hi hb (codeAny_mono z fun r s' y => ?_)))
  rcases r with e | (u | _ | _ | _) <;> exact y
end
end PXE
/-! PLX3: an own error made as a value: E(v), E(value=v). -/
namespace PXE
open PySem PySem.W PySem.Calls PyProof.Rows PySem.HandSPX
theorem err_madeK {prog : Program} {w : World} {A : Around} {R : Result → Shared → Prop} {s : Shared} {K : Frag} {mg mb : Str → Option Value} {nm : Str} {C D fI : Addr} (T : ErrTxt prog K mg nm C D fI) {v : Value} (X : K.In s.heap) (hg : s.heap.Ns mainGlobals mg) (hb : s.heap.Ns builtinsNs mb) (hbt : ∀ y : Str, y ≠ "__name__" → mb y = bootBuiltins y) (hlim : s.heap.NoLimit) (hroom : A.depth + 1 < recursionLimit)
    (hq : ∀ h' tk e d, Made s.heap h' e C d v → R (.ok (.ret (.ref e))) { s with heap := h', toks := tk }) :
    codeAny (model prog w) A (.call (.ref C) ⟨[], [("value", v)]⟩) R s := by
  obtain ⟨nn, q, N, bs, bm, sn, sub, ab, col, dd, k0, k1, k2, k3, k5, hC, hbm⟩ := T.cls
  obtain ⟨hp, g, dr, tk, os⟩ := s
  have k : ∀ b o, hp.get? b = some o → ((hp.push (kdv_tup [])).push (excO C hp.objs.size)).get? b = some o := fun b o e => Heap.get?_push_of_some _ (Heap.get?_push_of_some _ e)
  have hget : ((hp.push (kdv_tup [])).push (excO C hp.objs.size)).get? (hp.objs.size + 1) = some (excO C hp.objs.size) := by heap_get
  have hnx : K.lookup (hp.objs.size + 1) = none := by
    cases e : K.lookup (hp.objs.size + 1) with
    | none => rfl
    | some o => exact absurd (Nat.lt_of_succ_lt (Heap.lt_size (show hp.get? (hp.objs.size + 1) = some o from X _ _ e))) (Nat.lt_irrefl _)
  refine kw_call hbm (X _ _ hC) (looks_findIn X T.iC) (fun self => bind_fn X self T.tC) ?_
  refine err_init (s := ⟨(hp.push (kdv_tup [])).push (excO C hp.objs.size), g, dr, tk, os⟩) T (.inr rfl) (X.keeps k) (hg.keeps k) (hb.keeps k) hbt (hlim.keeps k) hget hnx hroom fun h' tk' dx t1 L => ?_
  obtain ⟨k', hx, dn, dne, hns⟩ := L
  have old : ∀ b o, hp.get? b = some o → h'.get? b = some o := fun b o e => k' b o (Nat.ne_of_lt (Nat.lt_succ_of_lt (Heap.lt_size e))) (k b o e)
  have z : hp.objs.size ≤ dx := by
    have q := dn
    rw [Heap.size_push, Heap.size_push] at q
    omega
  exact ⟨rfl, hq h' tk' (hp.objs.size + 1) dx ⟨old, Nat.le_succ _, ⟨_, _, hx, rfl, rfl, rfl, rfl⟩, z, dne, hns⟩⟩
/-- what is written of StrideError itself -/
theorem sup_of0 {K : Frag} {C N : Addr} {n q : Str} {bs : List Value} {sn : List Str} {sub : List Value} {ab : Bool} {col : Option Bool} {dd : Option Addr} {k0 k1 k2 k3 k5 : Option Value}
    (xC : K.lookup C = some (excClassObj n q C N bs veBm true sn sub ab col dd k0 k1 k2 k3 k5 "ValueError.__new__")) : ks_superIn K C C "__init__" = some (some (.builtin "ValueError.__init__")) := by
  have hcl : clsIn K C = some { name := n, bases := bs, mro := .ref C :: veBm, ns := N, qualname := q, hasDict := true, slotNames := sn, subclasses := sub, abstract := ab, collection := col, hasDel := false } := by unfold clsIn; rw [xC] <;> rfl
  unfold ks_superIn
  rw [hcl, Option.bind_some]
  have e : ((Value.ref C :: veBm).dropWhile (· != .ref C)).drop 1 = veBm := by
    rw [List.dropWhile_cons, if_neg (by simp)]
    rfl
  show alongIn K "__init__" (((Value.ref C :: veBm).dropWhile (· != .ref C)).drop 1) = _
  rw [e]
  exact along_ve K
theorem err_mk0 {prog : Program} {K : Frag} {h : Heap} {mg : Str → Option Value} {nm : Str} (X : K.In h) (G : h.Ns mainGlobals mg) {C fI cda cc N : Addr} {n q file : Str} {bs : List Value} {sn : List Str} {sub : List Value} {ab : Bool} {col : Option Bool} {dd od an cdd cld : Option Addr} {k0 k1 k2 k3 k5 : Option Value}
    {oc doc pm ct ccl cl : Value} {osl ccs csl : Array (Option Value)} {ln : Nat} {p1 p2 q1 q2 q3 q4 : Pos} {vs : Array Value} {tf : Tok}
    (aC : nsIn K mainGlobals nm = some (some (.ref C)))
    (xC : K.lookup C = some (excClassObj n q C N bs veBm true sn sub ab col dd k0 k1 k2 k3 k5 "ValueError.__new__"))
    (sa : findIn K (.ref C) "__setattr__" = some (some (.builtin "object.__setattr__"))) (ga : findIn K (.ref C) "__getattribute__" = some (some (.builtin "BaseException.__getattribute__"))) (gg : findIn K (.ref C) "__getattr__" = some none) (nv : findIn K (.ref C) "value" = some none)
    (iC : findIn K (.ref C) "__init__" = some (some (.ref fI))) (tC : typeIn K (.ref fI) = some (.type "function"))
    (l1 : K.lookup fI = some ⟨oc, od, .func (ksFn "__init__" "StrideError.__init__" (xA p1 p2) (xB ln q1 q2 q3 q4) xS .none .none doc pm an (.ref cda) ct cc), osl⟩) (c1 : codeIn K (.ref cda) "StrideError.__init__" = true)
    (lc : K.lookup cda = some ⟨ccl, cdd, .fields vs, ccs⟩) (hv : vs[2]? = some (.str file tf)) (hf : ((prog.main.file : Str) == file) = true) (lcc : K.lookup cc = some ⟨cl, cld, .cell (some (.ref C)), csl⟩) (hln : ln = 5 ∨ ln = 8)
    (kC : keepIn K (.ref C) = true) (eC : subIn K (.ref C) (.type "BaseException") = some true) (vC : subIn K (.ref C) (.type "ValueError") = some true) (yC : typeIn K (.ref C) = some (.type "type")) (hC : hasDictIn K C = true) (isC : isClsIn K C = true) (sC : subIn K (.ref C) (.ref C) = some true)
    (ny : nsIn K cStatics "thirdparty.any" = some none) (mD : mroIn K C (.ref C) = some true) (zs : nsIn K mainGlobals "super" = some none) (tp : (prog.main.scope.names.lookup ("super" : Str)).isSome = false) :
    ErrTxt prog K mg nm C C fI :=
  { gC := mg_of X G aC, cls := ⟨n, q, N, bs, veBm, sn, sub, ab, col, dd, k0, k1, k2, k3, k5, xC, rfl⟩, sa := sa, ga := ga, gg := gg, noN := nv, iC := iC, tC := tC, kC := kC, exC := eC, veC := vC, tyC := yC, hdC := hC, te := exm_of eC isC yC sC,
    sup := sup_of0 xC, any := ny, mroD := mD, clsD := by
      have z : (clsIn K C).isSome = true := isC
      exact Option.isSome_iff_exists.mp z,
    nsup := mg_none_of X G zs, top := tp,
    fn := ⟨oc, od, doc, pm, an, cda, cc, ct, osl, ln, p1, p2, q1, q2, q3, q4, ccl, cl, cdd, cld, vs, ccs, csl, file, tf, l1, c1, lc, hv, hf, lcc, hln⟩ }
end PXE
namespace PL
open PySem PySem.Spec PyProof.Rows L2
section
variable {X : Cx} {Cc D fI : Addr} {nm : Str} {pins : List (Addr × Obj)} {σ : L2.St} {H : Hp} {s : Shared}
/-- a made error, tracked from now on -/
theorem Inv.made {h' : Heap} {tk : Nat} {e d : Addr} {v : V} {v' : Value} (I : L2.Inv X pins σ H s) (hex : X.ex = []) (M : PXE.Made s.heap h' e Cc d v') (rv : RelV v v') :
    L2.Inv X pins σ (upd (upd H d (.xd [(("value" : Str), v)])) e (ExV (.ref Cc) d e)) { s with heap := h', toks := tk } := by
  obtain ⟨oe, fv, hoe, hc, hd, hdat, h1⟩ := M.obj
  have gone : ∀ b o, s.heap.get? b = some o → b ≠ e := fun b o q => Nat.ne_of_lt (Nat.lt_of_lt_of_le (Heap.lt_size q) M.new)
  have ob : ObjOk X.prog X.w (upd H d (.xd [(("value" : Str), v)])) h' d (.xd [(("value" : Str), v)]) := ⟨_, M.ns, fun f => rel_err rv f⟩
  have J : L2.Inv X pins σ (upd H d (.xd [(("value" : Str), v)])) { s with heap := h', toks := tk } := by
    obtain ⟨hp, g, dr, t0, os⟩ := s
    exact I.laid (t' := tk) M.keep M.dbig ob
  refine J.track (by rw [upd_ne (Ne.symm M.dne)]; exact I.hok.fresh M.new) ⟨⟨oe, fv, hoe, ⟨hc, hd⟩, hdat⟩, ⟨oe, hoe⟩, fun _ _ ⟨o, v, q, r⟩ k => ⟨o, v, k o q, r⟩⟩ ?_ ?_ ?_ ?_
  · cases q : X.s_0.heap.get? e with
    | none => rfl
    | some o =>
      obtain ⟨o', q1⟩ := I.base.there e o q (by rw [hex]; exact fun z => nomatch z)
      exact absurd rfl (gone e o' q1)
  · obtain ⟨m, hm, _⟩ := I.loc
    exact Nat.ne_of_gt (Nat.lt_of_lt_of_le hm.lt M.new)
  · intro x c hx
    obtain ⟨v, o', e', _⟩ := I.cell x c hx
    exact gone c o' e'
  · exact fun p hp => gone p.1 _ (I.pin p hp).1
/-- E(e), E(value=e) as a value -/
def tNewX (Cc : Addr) (ta : TA) : TE := fun σ H Q => ta σ H fun vs H1 => ∃ v, vs = [v] ∧ ∀ d a, H1 d = none → H1 a = none → a ≠ d → Q (.ref a) (upd (upd H1 d (.xd [(("value" : Str), v)])) a (ExV (.ref Cc) d a))
theorem pe_newX {a : Expr} {ta : TA} {p pos : Pos} {k : Nat} (T : PXE.ErrTxt X.prog X.K X.mg nm Cc D fI) (hr : Room k X.A) (ha : PA X [a] ta) (hg : Gl X nm) (hex : X.ex = []) (hdb : (nm == ("__debug__" : Str)) = false)
    (he : starEach (a :: []) X.env = (false, eval a X.env) :: starEach [] X.env) (hpl : (backTo pos (starEach [] X.env)).any (·.1) = false) :
    PE X (.Call (.Name nm p) [a] [] pos) (tNewX Cc ta) := by
  refine ⟨fun pins s σ H Q I h => ?_⟩
  refine wpAny_Call_Name_kw (ld_glob I hg T.gC ?_ hdb)
  refine PySem.W.callWith_K (h₀ := X.base) I.ok.mod.kin T.kC (thn (ha.run pos pins s σ H _ I h) fun us s1 hh => ?_) he hpl
  obtain ⟨vs, H1, I1, r1, v, ev, q1⟩ := hh
  subst ev
  refine ⟨I1.kIn, ?_⟩
  cases r1 with
  | cons rv rn =>
    rename_i v' us'
    cases rn
    show wpAny _ _ (call (.ref Cc) [v']) _ _ _
    obtain ⟨mb, hb1, hb2⟩ := I1.mod.blt
    refine wpAny_call (PXE.err_made T I1.kIn (I1.mod.glob.keeps I1.bk) (hb1.keeps I1.bk) hb2 I1.nolimit (by have := hr.dp; omega) fun h' tk' e d M => ?_)
    exact ⟨.ref e, _, Inv.made I1 hex M rv, rfl, q1 d e (I1.hok.fresh M.dbig) (I1.hok.fresh M.new) (Ne.symm M.dne)⟩
theorem pe_newXK {kws : List Keyword} {tk : TA} {p pos : Pos} {k : Nat} (T : PXE.ErrTxt X.prog X.K X.mg nm Cc D fI) (hr : Room k X.A) (hkw : PK X kws tk) (hg : Gl X nm) (hex : X.ex = []) (hdb : (nm == ("__debug__" : Str)) = false)
    (hall : (backToKw pos (keywordEach kws X.env)).all (·.1.isSome) = true) (hks : (backToKw pos (keywordEach kws X.env)).filterMap (·.1) = [("value" : Str)])
    (hpl : ((backTo pos (starEach [] X.env)).any (·.1) || (backToKw pos (keywordEach kws X.env)).any (·.1.isNone)) = false) :
    PE X (.Call (.Name nm p) [] kws pos) (tNewX Cc tk) := by
  refine ⟨fun pins s σ H Q I h => ?_⟩
  refine wpAny_Call_Name_kw (ld_glob I hg T.gC ?_ hdb)
  refine PySem.W.callWith_KW0 (h₀ := X.base) I.ok.mod.kin T.kC hall (thn (hkw.run pos pins s σ H _ I h) fun ws s1 hh => ?_) hpl
  obtain ⟨vs, H1, I1, r1, v, ev, q1⟩ := hh
  subst ev
  refine ⟨I1.kIn, ?_⟩
  rw [hks]
  cases r1 with
  | cons rv rn =>
    rename_i v' us'
    cases rn
    show wpAny _ _ (call (.ref Cc) [] [(("value" : Str), v')]) _ _ _
    obtain ⟨mb, hb1, hb2⟩ := I1.mod.blt
    refine wpAny_call (PXE.err_madeK T I1.kIn (I1.mod.glob.keeps I1.bk) (hb1.keeps I1.bk) hb2 I1.nolimit (by have := hr.dp; omega) fun h' tk' e d M => ?_)
    exact ⟨.ref e, _, Inv.made I1 hex M rv, rfl, q1 d e (I1.hok.fresh M.dbig) (I1.hok.fresh M.new) (Ne.symm M.dne)⟩
end
section
variable {X : Cx} {C : Fx} {W : WX} {e : Expr} {fe : Stt → Res PV} {p pos : Pos} {Cc D fI : Addr} {nm : Str} {k : Nat}
def eNewX (nm : Str) (fe : Stt → Res PV) : Stt → Res PV := fun s => (fe s).bind fun v s1 => .ok (.exi nm v) s1
theorem newX_post {F : Hp} {A : Nat → List Addr} {H : Hp} {σ : L2.St} {s : Stt} {Q : VK} {u : V} {v : PV} (hcl : C.cl nm = Cc) (o : OkF C F A H σ s) (r : Rp C F u v) (pp : Post C W (fun F _ v p => Rp C F v p) F A H σ (.ok (PV.exi nm v) s) Q) :
    ∀ d a, H d = none → H a = none → a ≠ d → Q (.ref a) (upd (upd H d (.xd [(("value" : Str), u)])) a (ExV (.ref Cc) d a)) := by
  intro d a hd ha hne
  obtain ⟨o2, st2⟩ := o.alloc (o := .xd [(("value" : Str), u)]) hd
  have ha2 : upd H d (.xd [(("value" : Str), u)]) a = none := by rw [upd_ne hne]; exact ha
  obtain ⟨o3, st3⟩ := o2.alloc (o := ExV (.ref Cc) d a) ha2
  subst hcl
  exact Post.now o3 (pp.after (st2.trans st3)) (.exi upd_same (st3.s1 _ _ upd_same) ((r.mono st2.s1).mono st3.s1))
theorem dv_newX (T : PXE.ErrTxt X.prog X.K X.mg nm Cc D fI) (hr : Room k X.A) (hcl : C.cl nm = Cc) (he : DV X C W e fe) (hg : Gl X nm := by rfl) (hex : X.ex = [] := by rfl) (hdb : (nm == ("__debug__" : Str)) = false := by decide)
    (h1 : starEach (e :: []) X.env = (false, eval e X.env) :: starEach [] X.env := by rfl) (hpl : (backTo pos (starEach [] X.env)).any (·.1) = false := by rfl) : DV X C W (.Call (.Name nm p) [e] [] pos) (eNewX nm fe) := by
  obtain ⟨te, pe, qe⟩ := he.pr
  refine ⟨_, pe_newX T hr (pa_cons pe pa_nil h1) hg hex hdb h1 hpl, fun F A H σ s Q o pp => ?_⟩
  refine qe F A H σ s _ o (pp.seq fun q1 s1 v1 F1 A1 H1 _ o1 st1 r1 p1 => ?_)
  exact ⟨v1, rfl, newX_post hcl o1 r1 p1⟩
theorem dv_newXK {kpos : Pos} (T : PXE.ErrTxt X.prog X.K X.mg nm Cc D fI) (hr : Room k X.A) (hcl : C.cl nm = Cc) (he : DV X C W e fe) (hg : Gl X nm := by rfl) (hex : X.ex = [] := by rfl) (hdb : (nm == ("__debug__" : Str)) = false := by decide)
    (hall : (backToKw pos (keywordEach [⟨some "value", e, kpos⟩] X.env)).all (·.1.isSome) = true := by rfl) (hks : (backToKw pos (keywordEach [⟨some "value", e, kpos⟩] X.env)).filterMap (·.1) = [("value" : Str)] := by rfl)
    (hpl : ((backTo pos (starEach [] X.env)).any (·.1) || (backToKw pos (keywordEach [⟨some "value", e, kpos⟩] X.env)).any (·.1.isNone)) = false := by rfl) : DV X C W (.Call (.Name nm p) [] [⟨some "value", e, kpos⟩] pos) (eNewX nm fe) := by
  obtain ⟨te, pe, qe⟩ := he.pr
  refine ⟨_, pe_newXK T hr (pk_cons pe pk_nil) hg hex hdb hall hks hpl, fun F A H σ s Q o pp => ?_⟩
  refine qe F A H σ s _ o (pp.seq fun q1 s1 v1 F1 A1 H1 _ o1 st1 r1 p1 => ?_)
  exact ⟨v1, rfl, newX_post hcl o1 r1 p1⟩
end
end PL
/-! PWZ: small lemmas of the walk (for all newer laws). -/
namespace PM
open PySem PySem.Spec PyProof.Rows L2 PL PN
theorem call1_ok {st : Stt} {m : List SV → List MO → FRes} {f0 : Stt → Res PV} {p0 r : PV} (h0 : f0 st = .ok p0 st) (e : m [.val p0] [] = .ok r []) : eCall m (avN 1 (lPv f0 lNil)) st = .ok r st := by
  simp only [eCall, avN, lPv, lNil, h0, Res.bind_ok, List.length_cons, List.length_nil, Nat.reduceAdd, if_true, lowerA, distinct, getAll, setAll, e]
theorem for_atZ {fi : Stt → Res (List PV)} {a : PV → Stt → Option Stt} {b : Stt → Fl} {s s1 : Stt} {l : List PV} (hi : fi s = .ok l s1) : gFor fi a b s = forL a b l s1 := by
  unfold gFor
  rw [hi]
  rfl
theorem nt_z {st s1 : Stt} {f : Stt → Res Bool} {b : Bool} (h : f st = .ok b s1) : tNt f st = .ok (!b) s1 := by
  simp only [tNt, h, Res.bind_ok]
theorem ne_z {st s1 s2 : Stt} {fa fb : Stt → Res PV} {p q : PV} {z : Bool} (ha : fa st = .ok p s1) (hb : fb s1 = .ok q s2) (h : pEqB p q = some z) : tOf (eBin pNe fa fb) st = .ok (!z) s2 := by
  simp only [tOf, eBin, ha, hb, Res.bind_ok, pNe, h, Option.map_some, Res.opt_some]
theorem tTru_bl {st s1 : Stt} {f : Stt → Res PV} {b : Bool} (h : f st = .ok (.bl b) s1) : tTru f st = .ok b s1 := by
  simp only [tTru, h, Res.bind_ok, pTru, Res.opt_some]
theorem lstoZ {st s1 s2 : Stt} {i : Nat} {fa : Stt → Res (List PV)} {l : List PV} (h : fa st = .ok l s1) (hl : l.length ≤ 16777216) (hi : i < s1.ro.length) (hs : setO i (.lst l) s1 = s2) : gAsgO i (oLst fa) st = .nx s2 := by
  unfold gAsgO oLst
  rw [h]
  simp only [Res.bind_ok]
  rw [if_pos hl]
  show (if i < s1.ro.length then Fl.nx (setO i (.lst l) s1) else _) = _
  rw [if_pos hi, hs]
theorem extZ {st s2 : Stt} {i : Nat} {fe : Stt → Res PV} {l z : List PV} (hg : getM st i = some (.inl i, .lst l)) (he : fe st = .ok (.lst z) st) (hl : l.length + z.length ≤ 16777216) (hs : setK st (.inl i) (.lst (l ++ z)) = s2) : gExt i fe st = .nx s2 := by
  unfold gExt
  rw [he]
  simp only [Res.fl_ok, hg]
  rw [if_pos hl, hs]
  rfl
theorem oneZ {g : Stt → Fl} {st s1 : Stt} (h : g st = .nx s1) : gSeq g gNop st = .nx s1 := by
  simp only [gSeq, h, gNop]
end PM
namespace K80
open PySem PySem.Spec PyProof.Rows L2 PL
/-! ### the text by places -/
def top (i : Nat) : Stmt := PySem.Challenge.pw_stridelanes_k80_errors_made.main.body.getD i (.Pass ⟨0, 0, 0, 0⟩)
abbrev s__law_bag : Stmt := top 16
abbrev s__law_draw : Stmt := top 17
abbrev s__law_flags : Stmt := top 19
abbrev s__law_made : Stmt := top 18
abbrev s_law : Stmt := top 20
/-! ### the mirrors -/
noncomputable def g__law_bag : Stt → Fl :=
  (gSeq (gParO 1 2 (eC (.int 11)) (oLst aNil))
  (gSeq (gFor (iAny (eVar 0)) (aName 3)
  (gSeq (gAsg (eBin pMod (eBin pAdd (eBin pMul (eVar 1) (eC (.int 1000003))) (eVar 3)) (eC (.int 2305843009213693951))) (aName 1))
  (gSeq (gIf (tOf (eBin pGe (eCallB pAbs (aCons (eVar 3) aNil)) (eBin pPow (eC (.int 10)) (eC (.int 18)))))
  (gSeq (gApp 2 (eCallB pAbs (aCons (eVar 3) aNil)))
  gNop)
  gNop)
  gNop)))
  (gSeq (gRetO (oBag 2 (aCons (eC (.int 0)) (aCons (eC (.int 0)) (aCons (eVar 1) aNil)))))
  gNop)))
noncomputable def m__law_bag : List SV → List MO → FRes := mOf 4 g__law_bag
noncomputable def g__law_draw : Stt → Fl :=
  (gSeq (gIf (tAn (tOf (eBin pLt (eBag 0 "left") (eVar 1))) (tOf (eBin pGt (eBagLen 0) (eC (.int 0)))))
  (gSeq (gBagSet 0 "left" (eBagPop 0))
  gNop)
  gNop)
  (gSeq (gIf (tOf (eBin pGe (eBag 0 "left") (eVar 1)))
  (gSeq (gAsg (eBin pMod (eBag 0 "left") (eVar 1)) (aName 2))
  (gSeq (gBagSet 0 "left" (eBin pFdiv (eBag 0 "left") (eVar 1)))
  (gSeq (gRet (eVar 2))
  gNop)))
  gNop)
  (gSeq (gBagAug 0 "turn" (eC (.int 1)))
  (gSeq (gAsg (eBag 0 "turn") (aName 3))
  (gSeq (gAsg (eBin pAdd (eBin pMul (eBin pAdd (eBag 0 "blend") (eBin pMul (eC (.int 17)) (eVar 3))) (eBin pPow (eBin pAdd (eVar 3) (eC (.int 29))) (eC (.int 2)))) (eBin pMul (eC (.int 7919)) (eVar 3))) (aName 4))
  (gSeq (gRet (eBin pMod (eBin pFdiv (eBin pMod (eBin pPow (eBin pMod (eVar 4) (eC (.int 2305843009213693951))) (eC (.int 3))) (eBin pAdd (eBin pPow (eC (.int 10)) (eC (.int 18))) (eC (.int 9)))) (eC (.int 64))) (eVar 1)))
  gNop))))))
noncomputable def m__law_draw : List SV → List MO → FRes := mOf 5 g__law_draw
noncomputable def g__law_flags : Stt → Fl :=
  (gSeq (gAsgO 1 (oLst (aCons (eIsX ["InvalidGuard"] (eVar 0)) (aCons (eIsX ["InvalidLanes"] (eVar 0)) (aCons (eIsX ["InvalidStatement"] (eVar 0)) aNil)))))
  (gSeq (gExt 1 (frz (oLst (aCons (eIsX ["InvalidBarrier"] (eVar 0)) (aCons (eIsX ["InvalidAccess"] (eVar 0)) (aCons (eIsX ["InvalidNumber"] (eVar 0)) aNil))))))
  (gSeq (gExt 1 (frz (oLst (aCons (eIsX ["InvalidArray"] (eVar 0)) (aCons (eIsX ["InvalidSchedule"] (eVar 0)) (aCons (eIsX ["UnlikeLanes"] (eVar 0)) aNil))))))
  (gSeq (gExt 1 (frz (oLst (aCons (eIsX ["Racing"] (eVar 0)) (aCons (eIsX ["NotPlain"] (eVar 0)) (aCons (eIsX ["NothingToUndo"] (eVar 0)) aNil))))))
  (gSeq (gApp 1 (eIsX ["Unreadable"] (eVar 0)))
  (gSeq (gRet (frz (oMv 1)))
  gNop))))))
noncomputable def m__law_flags : List SV → List MO → FRes := mOf 2 g__law_flags
noncomputable def g__law_made : Stt → Fl :=
  (gSeq (gAsgO 1 (oLst (aCons (eTup (aCons (eNewX "InvalidGuard" (eVar 0)) (aCons (eNewX "InvalidGuard" (eVar 0)) aNil))) (aCons (eTup (aCons (eNewX "InvalidLanes" (eVar 0)) (aCons (eNewX "InvalidLanes" (eVar 0)) aNil))) aNil))))
  (gSeq (gApp 1 (eTup (aCons (eNewX "InvalidStatement" (eVar 0)) (aCons (eNewX "InvalidStatement" (eVar 0)) aNil))))
  (gSeq (gApp 1 (eTup (aCons (eNewX "InvalidBarrier" (eVar 0)) (aCons (eNewX "InvalidBarrier" (eVar 0)) aNil))))
  (gSeq (gApp 1 (eTup (aCons (eNewX "InvalidAccess" (eVar 0)) (aCons (eNewX "InvalidAccess" (eVar 0)) aNil))))
  (gSeq (gApp 1 (eTup (aCons (eNewX "InvalidNumber" (eVar 0)) (aCons (eNewX "InvalidNumber" (eVar 0)) aNil))))
  (gSeq (gApp 1 (eTup (aCons (eNewX "InvalidArray" (eVar 0)) (aCons (eNewX "InvalidArray" (eVar 0)) aNil))))
  (gSeq (gApp 1 (eTup (aCons (eNewX "InvalidSchedule" (eVar 0)) (aCons (eNewX "InvalidSchedule" (eVar 0)) aNil))))
  (gSeq (gApp 1 (eTup (aCons (eNewX "UnlikeLanes" (eVar 0)) (aCons (eNewX "UnlikeLanes" (eVar 0)) aNil))))
  (gSeq (gApp 1 (eTup (aCons (eNewX "Racing" (eVar 0)) (aCons (eNewX "Racing" (eVar 0)) aNil))))
  (gSeq (gApp 1 (eTup (aCons (eNewX "NotPlain" (eVar 0)) (aCons (eNewX "NotPlain" (eVar 0)) aNil))))
  (gSeq (gApp 1 (eTup (aCons (eNewX "NothingToUndo" (eVar 0)) (aCons (eNewX "NothingToUndo" (eVar 0)) aNil))))
  (gSeq (gApp 1 (eTup (aCons (eNewX "Unreadable" (eVar 0)) (aCons (eNewX "Unreadable" (eVar 0)) aNil))))
  (gSeq (gRet (frz (oMv 1)))
  gNop)))))))))))))
noncomputable def m__law_made : List SV → List MO → FRes := mOf 2 g__law_made
noncomputable def g_law : Stt → Fl :=
  (gSeq (gAsgO 1 (oCall m__law_bag (avN 1 (lPv (eVar 0) lNil))))
  (gSeq (gFor (iRangeW1 (aCons (eBin pAdd (eC (.int 4)) (eCallB pMin2 (aCons (eC (.int 8)) (aCons (eCallB pLen (aCons (eVar 0) aNil)) aNil)))) aNil)) (aName 2)
  (gSeq (gAsg (eBin pIx (eTup (aCons (eC .non) (aCons (eTup (aCons (eC (.int 0)) (aCons (eC (.int 1)) (aCons (eC (.int 2)) (aCons (eC (.int 3)) aNil))))) (aCons (eC (.str "text")) (aCons (eCall m__law_draw (avN 2 (lSl 1 (lPv (eBin pPow (eC (.int 10)) (eC (.int 20))) lNil)))) (aCons (eTup (aCons (eC (.int 0)) (aCons (eC (.int 2)) aNil))) (aCons (eUn pNeg (eC (.int 1))) aNil))))))) (eCall m__law_draw (avN 2 (lSl 1 (lPv (eC (.int 6)) lNil))))) (aName 3))
  (gSeq (gAsg (eCall m__law_made (avN 1 (lPv (eVar 3) lNil))) (aName 4))
  (gSeq (gFor (iRangeW1 (aCons (eC (.int 13)) aNil)) (aName 5)
  (gSeq (gFor (iAny (eBin pIx (eVar 4) (eVar 5))) (aName 6)
  (gSeq (gIf (tOrr (tOf (eBin pNe (eCallB pRepr (aCons (eXv (eVar 6)) aNil)) (eCallB pRepr (aCons (eVar 3) aNil)))) (tOrr (tNt (tTru (eIsX ["StrideError"] (eVar 6)))) (tNt (tTru (eIsX ["ValueError"] (eVar 6))))))
  (gSeq (gRet (eC (.bl false)))
  gNop)
  gNop)
  (gSeq (gIf (tOf (eBin pNe (eCall m__law_flags (avN 1 (lPv (eVar 6) lNil))) (frz (oComp [7] (iRangeW1 (aCons (eC (.int 13)) aNil)) (aName 7) tYesD (eBin pEq (eVar 7) (eVar 5))))))
  (gSeq (gRet (eC (.bl false)))
  gNop)
  gNop)
  gNop)))
  gNop))
  (gSeq (gIf (tOrr (tOf (eBin pNe (eCallB pRepr (aCons (eXv (eNewX "StrideError" (eVar 3))) aNil)) (eCallB pRepr (aCons (eVar 3) aNil)))) (tOf (eBin pNe (eCallB pRepr (aCons (eXv (eNewX "StrideError" (eVar 3))) aNil)) (eCallB pRepr (aCons (eVar 3) aNil)))))
  (gSeq (gRet (eC (.bl false)))
  gNop)
  gNop)
  gNop)))))
  (gSeq (gRet (eBin pEq (eCall m__law_flags (avN 1 (lPv (eNewX "StrideError" (eC (.str "a"))) lNil))) (eBin pMul (frz (oLst (aCons (eC (.bl false)) aNil))) (eC (.int 13)))))
  gNop)))
noncomputable def m_law : List SV → List MO → FRes := mOf 8 g_law
/-! ### what the top has left -/
structure Txt (P : Program) (w : World) (K : PySem.W.Frag) (mg : Str → Option Value) (cl : Str → Addr) where
  a__law_bag : Addr
  fd__law_bag : FuncData
  F__law_bag : Fun K "_law_bag" "_law_bag" s__law_bag a__law_bag fd__law_bag
  b__law_bag : Binds K fd__law_bag ["script"] []
  mg__law_bag : mg "_law_bag" = some (.ref a__law_bag)
  a__law_draw : Addr
  fd__law_draw : FuncData
  F__law_draw : Fun K "_law_draw" "_law_draw" s__law_draw a__law_draw fd__law_draw
  b__law_draw : Binds K fd__law_draw ["bag", "many"] []
  mg__law_draw : mg "_law_draw" = some (.ref a__law_draw)
  a__law_flags : Addr
  fd__law_flags : FuncData
  F__law_flags : Fun K "_law_flags" "_law_flags" s__law_flags a__law_flags fd__law_flags
  b__law_flags : Binds K fd__law_flags ["e"] []
  mg__law_flags : mg "_law_flags" = some (.ref a__law_flags)
  a__law_made : Addr
  fd__law_made : FuncData
  F__law_made : Fun K "_law_made" "_law_made" s__law_made a__law_made fd__law_made
  b__law_made : Binds K fd__law_made ["thing"] []
  mg__law_made : mg "_law_made" = some (.ref a__law_made)
  a_law : Addr
  fd_law : FuncData
  F_law : Fun K "law" "law" s_law a_law fd_law
  b_law : Binds K fd_law ["script"] []
  mg_law : mg "law" = some (.ref a_law)
  z_ValueError : mg "ValueError" = none
  z_abs : mg "abs" = none
  z_isinstance : mg "isinstance" = none
  z_len : mg "len" = none
  z_min : mg "min" = none
  z_range : mg "range" = none
  z_repr : mg "repr" = none
  xd_InvalidGuard : Addr
  xf_InvalidGuard : Addr
  x_InvalidGuard : PXE.ErrTxt P K mg "InvalidGuard" (cl "InvalidGuard") xd_InvalidGuard xf_InvalidGuard
  xd_InvalidLanes : Addr
  xf_InvalidLanes : Addr
  x_InvalidLanes : PXE.ErrTxt P K mg "InvalidLanes" (cl "InvalidLanes") xd_InvalidLanes xf_InvalidLanes
  xd_InvalidStatement : Addr
  xf_InvalidStatement : Addr
  x_InvalidStatement : PXE.ErrTxt P K mg "InvalidStatement" (cl "InvalidStatement") xd_InvalidStatement xf_InvalidStatement
  xd_InvalidBarrier : Addr
  xf_InvalidBarrier : Addr
  x_InvalidBarrier : PXE.ErrTxt P K mg "InvalidBarrier" (cl "InvalidBarrier") xd_InvalidBarrier xf_InvalidBarrier
  xd_InvalidAccess : Addr
  xf_InvalidAccess : Addr
  x_InvalidAccess : PXE.ErrTxt P K mg "InvalidAccess" (cl "InvalidAccess") xd_InvalidAccess xf_InvalidAccess
  xd_InvalidNumber : Addr
  xf_InvalidNumber : Addr
  x_InvalidNumber : PXE.ErrTxt P K mg "InvalidNumber" (cl "InvalidNumber") xd_InvalidNumber xf_InvalidNumber
  xd_InvalidArray : Addr
  xf_InvalidArray : Addr
  x_InvalidArray : PXE.ErrTxt P K mg "InvalidArray" (cl "InvalidArray") xd_InvalidArray xf_InvalidArray
  xd_InvalidSchedule : Addr
  xf_InvalidSchedule : Addr
  x_InvalidSchedule : PXE.ErrTxt P K mg "InvalidSchedule" (cl "InvalidSchedule") xd_InvalidSchedule xf_InvalidSchedule
  xd_UnlikeLanes : Addr
  xf_UnlikeLanes : Addr
  x_UnlikeLanes : PXE.ErrTxt P K mg "UnlikeLanes" (cl "UnlikeLanes") xd_UnlikeLanes xf_UnlikeLanes
  xd_Racing : Addr
  xf_Racing : Addr
  x_Racing : PXE.ErrTxt P K mg "Racing" (cl "Racing") xd_Racing xf_Racing
  xd_NotPlain : Addr
  xf_NotPlain : Addr
  x_NotPlain : PXE.ErrTxt P K mg "NotPlain" (cl "NotPlain") xd_NotPlain xf_NotPlain
  xd_NothingToUndo : Addr
  xf_NothingToUndo : Addr
  x_NothingToUndo : PXE.ErrTxt P K mg "NothingToUndo" (cl "NothingToUndo") xd_NothingToUndo xf_NothingToUndo
  xd_Unreadable : Addr
  xf_Unreadable : Addr
  x_Unreadable : PXE.ErrTxt P K mg "Unreadable" (cl "Unreadable") xd_Unreadable xf_Unreadable
  xd_StrideError : Addr
  xf_StrideError : Addr
  x_StrideError : PXE.ErrTxt P K mg "StrideError" (cl "StrideError") xd_StrideError xf_StrideError
  ge_InvalidGuard : mg "InvalidGuard" = some (.ref (cl "InvalidGuard"))
  ge_InvalidLanes : mg "InvalidLanes" = some (.ref (cl "InvalidLanes"))
  ge_InvalidStatement : mg "InvalidStatement" = some (.ref (cl "InvalidStatement"))
  ge_InvalidBarrier : mg "InvalidBarrier" = some (.ref (cl "InvalidBarrier"))
  ge_InvalidAccess : mg "InvalidAccess" = some (.ref (cl "InvalidAccess"))
  ge_InvalidNumber : mg "InvalidNumber" = some (.ref (cl "InvalidNumber"))
  ge_InvalidArray : mg "InvalidArray" = some (.ref (cl "InvalidArray"))
  ge_InvalidSchedule : mg "InvalidSchedule" = some (.ref (cl "InvalidSchedule"))
  ge_UnlikeLanes : mg "UnlikeLanes" = some (.ref (cl "UnlikeLanes"))
  ge_Racing : mg "Racing" = some (.ref (cl "Racing"))
  ge_NotPlain : mg "NotPlain" = some (.ref (cl "NotPlain"))
  ge_NothingToUndo : mg "NothingToUndo" = some (.ref (cl "NothingToUndo"))
  ge_Unreadable : mg "Unreadable" = some (.ref (cl "Unreadable"))
  ge_StrideError : mg "StrideError" = some (.ref (cl "StrideError"))
  xk : PL.ErrK K cl
section
variable {P : Program} {w : World} {K : PySem.W.Frag} {mg : Str → Option Value} {base : Heap} {cl : Str → Addr}
theorem sc__law_bag : FnScope ["script", "blend", "great", "cell"] ["script"] (defScope s__law_bag) := ⟨rfl, rfl, rfl, by decide +kernel, rfl, by decide +kernel, by decide +kernel⟩
theorem ok__law_bag (T : Txt P w K mg cl) : FnP P w K mg base cl 1 T.a__law_bag T.fd__law_bag ["script"] m__law_bag :=
  fnp (N := ["script", "blend", "great", "cell"]) (ps := ["script"]) (k := 0) T.F__law_bag sc__law_bag rfl fun cdv A outer s H E C hK hcl hr bd => by
    subst hcl
    have nd := sc__law_bag.nd
    have hu64 := hr.units
    have hu65 : (A.deeper (envOfC "_law_bag" (defScope s__law_bag) s.heap.objs.size T.a__law_bag cdv)).units + 65 < cLine := by have := hr.un; omega
    exact (dss_cons (ds_parO (i := 1) (j := 2) bd.calm nd rfl rfl (by decide) rfl rfl dv_int (do_lst da_nil) rfl)
      (dss_cons (ds_for bd.own bd.calm (di_any hK.symm (dv_var 0)) (dg_name (i := 3) nd rfl (Or.inl rfl))
      (dss_cons (ds_set (i := 1) nd rfl (Or.inl rfl) (dv_op op_modN d_mod (dv_op op_addA (d_add hK.symm) (dv_op op_mulA d_mul (dv_var 1) dv_int) (dv_var 3)) dv_int))
      (dss_cons (ds_if (dt_cmp op_ge d_ge (dv_callB call_abs c_abs rfl T.z_abs (by decide +kernel) (da_cons (dv_var 3) da_nil)) (dv_op op_powA d_pow dv_int dv_int) (by rfl))
      (dss_cons (ds_app 2 (dv_callB call_abs c_abs rfl T.z_abs (by decide +kernel) (da_cons (dv_var 3) da_nil)))
      dss_nil)
      dss_nil)
      dss_nil)))
      (dss_cons (ds_retO (do_bag 2 pe_str (dpr_cons pe_str dv_int (dpr_cons pe_str dv_int (dpr_cons pe_str (dv_var 1) dpr_nil)))))
      dss_nil)))
theorem sc__law_draw : FnScope ["bag", "many", "drawn", "turn", "mixed"] ["bag", "many"] (defScope s__law_draw) := ⟨rfl, rfl, rfl, by decide +kernel, rfl, by decide +kernel, by decide +kernel⟩
theorem ok__law_draw (T : Txt P w K mg cl) : FnP P w K mg base cl 1 T.a__law_draw T.fd__law_draw ["bag", "many"] m__law_draw :=
  fnp (N := ["bag", "many", "drawn", "turn", "mixed"]) (ps := ["bag", "many"]) (k := 0) T.F__law_draw sc__law_draw rfl fun cdv A outer s H E C hK hcl hr bd => by
    subst hcl
    have nd := sc__law_draw.nd
    have hu64 := hr.units
    have hu65 : (A.deeper (envOfC "_law_draw" (defScope s__law_draw) s.heap.objs.size T.a__law_draw cdv)).units + 65 < cLine := by have := hr.un; omega
    exact (dss_cons (ds_if (dt_of (dw_and (dt_cmp op_lt d_lt (dv_bag 0 (Nat.lt_of_le_of_lt (Nat.add_le_add_left (by decide) _) hu65)) (dv_var 1) (by rfl)) (dw_and1 (dt_cmp op_gt d_gt (dv_bagLen 0 (Nat.lt_of_le_of_lt (Nat.add_le_add_left (by decide) _) hu65) rfl T.z_len) dv_int (by rfl)))))
      (dss_cons (ds_bagSet 0 (Nat.lt_of_le_of_lt (Nat.add_le_add_left (by decide) _) hu65) (dv_bagPop 0 (Nat.lt_of_le_of_lt (Nat.add_le_add_left (by decide) _) hu65)))
      dss_nil)
      dss_nil)
      (dss_cons (ds_if (dt_cmp op_ge d_ge (dv_bag 0 (Nat.lt_of_le_of_lt (Nat.add_le_add_left (by decide) _) hu65)) (dv_var 1) (by rfl))
      (dss_cons (ds_set (i := 2) nd rfl (Or.inl rfl) (dv_op op_modN d_mod (dv_bag 0 (Nat.lt_of_le_of_lt (Nat.add_le_add_left (by decide) _) hu65)) (dv_var 1)))
      (dss_cons (ds_bagSet 0 (Nat.lt_of_le_of_lt (Nat.add_le_add_left (by decide) _) hu65) (dv_op op_fdivA d_fdiv (dv_bag 0 (Nat.lt_of_le_of_lt (Nat.add_le_add_left (by decide) _) hu65)) (dv_var 1)))
      (dss_cons (ds_ret (dv_var 2))
      dss_nil)))
      dss_nil)
      (dss_cons (ds_bagAug 0 (Nat.lt_of_le_of_lt (Nat.add_le_add_left (by decide) _) hu65) dv_int)
      (dss_cons (ds_set (i := 3) nd rfl (Or.inl rfl) (dv_bag 0 (Nat.lt_of_le_of_lt (Nat.add_le_add_left (by decide) _) hu65)))
      (dss_cons (ds_set (i := 4) nd rfl (Or.inl rfl) (dv_op op_addA (d_add hK.symm) (dv_op op_mulA d_mul (dv_op op_addA (d_add hK.symm) (dv_bag 0 (Nat.lt_of_le_of_lt (Nat.add_le_add_left (by decide) _) hu65)) (dv_op op_mulA d_mul dv_int (dv_var 3))) (dv_op op_powA d_pow (dv_op op_addA (d_add hK.symm) (dv_var 3) dv_int) dv_int)) (dv_op op_mulA d_mul dv_int (dv_var 3))))
      (dss_cons (ds_ret (dv_op op_modN d_mod (dv_op op_fdivA d_fdiv (dv_op op_modN d_mod (dv_op op_powA d_pow (dv_op op_modN d_mod (dv_var 4) dv_int) dv_int) (dv_op op_addA (d_add hK.symm) (dv_op op_powA d_pow dv_int dv_int) dv_int)) dv_int) (dv_var 1)))
      dss_nil))))))
theorem sc__law_flags : FnScope ["e", "flags"] ["e"] (defScope s__law_flags) := ⟨rfl, rfl, rfl, by decide +kernel, rfl, by decide +kernel, by decide +kernel⟩
theorem ok__law_flags (T : Txt P w K mg cl) : FnP P w K mg base cl 1 T.a__law_flags T.fd__law_flags ["e"] m__law_flags :=
  fnp (N := ["e", "flags"]) (ps := ["e"]) (k := 0) T.F__law_flags sc__law_flags rfl fun cdv A outer s H E C hK hcl hr bd => by
    subst hcl
    have nd := sc__law_flags.nd
    have hu64 := hr.units
    have hu65 : (A.deeper (envOfC "_law_flags" (defScope s__law_flags) s.heap.objs.size T.a__law_flags cdv)).units + 65 < cLine := by have := hr.un; omega
    exact (dss_cons (ds_setO (i := 1) nd rfl (Or.inl rfl) (do_lst (da_cons (dv_isX T.xk (by decide) (dv_var 0) rfl T.z_isinstance rfl T.ge_InvalidGuard) (da_cons (dv_isX T.xk (by decide) (dv_var 0) rfl T.z_isinstance rfl T.ge_InvalidLanes) (da_cons (dv_isX T.xk (by decide) (dv_var 0) rfl T.z_isinstance rfl T.ge_InvalidStatement) da_nil)))))
      (dss_cons (ds_ext 1 (dv_frz (do_lst (da_cons (dv_isX T.xk (by decide) (dv_var 0) rfl T.z_isinstance rfl T.ge_InvalidBarrier) (da_cons (dv_isX T.xk (by decide) (dv_var 0) rfl T.z_isinstance rfl T.ge_InvalidAccess) (da_cons (dv_isX T.xk (by decide) (dv_var 0) rfl T.z_isinstance rfl T.ge_InvalidNumber) da_nil))))))
      (dss_cons (ds_ext 1 (dv_frz (do_lst (da_cons (dv_isX T.xk (by decide) (dv_var 0) rfl T.z_isinstance rfl T.ge_InvalidArray) (da_cons (dv_isX T.xk (by decide) (dv_var 0) rfl T.z_isinstance rfl T.ge_InvalidSchedule) (da_cons (dv_isX T.xk (by decide) (dv_var 0) rfl T.z_isinstance rfl T.ge_UnlikeLanes) da_nil))))))
      (dss_cons (ds_ext 1 (dv_frz (do_lst (da_cons (dv_isX T.xk (by decide) (dv_var 0) rfl T.z_isinstance rfl T.ge_Racing) (da_cons (dv_isX T.xk (by decide) (dv_var 0) rfl T.z_isinstance rfl T.ge_NotPlain) (da_cons (dv_isX T.xk (by decide) (dv_var 0) rfl T.z_isinstance rfl T.ge_NothingToUndo) da_nil))))))
      (dss_cons (ds_app 1 (dv_isX T.xk (by decide) (dv_var 0) rfl T.z_isinstance rfl T.ge_Unreadable))
      (dss_cons (ds_ret (dv_frz (do_mv 1)))
      dss_nil))))))
theorem sc__law_made : FnScope ["thing", "found"] ["thing"] (defScope s__law_made) := ⟨rfl, rfl, rfl, by decide +kernel, rfl, by decide +kernel, by decide +kernel⟩
theorem ok__law_made (T : Txt P w K mg cl) : FnP P w K mg base cl 1 T.a__law_made T.fd__law_made ["thing"] m__law_made :=
  fnp (N := ["thing", "found"]) (ps := ["thing"]) (k := 0) T.F__law_made sc__law_made rfl fun cdv A outer s H E C hK hcl hr bd => by
    subst hcl
    have nd := sc__law_made.nd
    have hu64 := hr.units
    have hu65 : (A.deeper (envOfC "_law_made" (defScope s__law_made) s.heap.objs.size T.a__law_made cdv)).units + 65 < cLine := by have := hr.un; omega
    exact (dss_cons (ds_setO (i := 1) nd rfl (Or.inl rfl) (do_lst (da_cons (dv_tup (da_cons (dv_newX T.x_InvalidGuard hr rfl (dv_var 0)) (da_cons (dv_newXK T.x_InvalidGuard hr rfl (dv_var 0)) da_nil))) (da_cons (dv_tup (da_cons (dv_newX T.x_InvalidLanes hr rfl (dv_var 0)) (da_cons (dv_newXK T.x_InvalidLanes hr rfl (dv_var 0)) da_nil))) da_nil))))
      (dss_cons (ds_app 1 (dv_tup (da_cons (dv_newX T.x_InvalidStatement hr rfl (dv_var 0)) (da_cons (dv_newXK T.x_InvalidStatement hr rfl (dv_var 0)) da_nil))))
      (dss_cons (ds_app 1 (dv_tup (da_cons (dv_newX T.x_InvalidBarrier hr rfl (dv_var 0)) (da_cons (dv_newXK T.x_InvalidBarrier hr rfl (dv_var 0)) da_nil))))
      (dss_cons (ds_app 1 (dv_tup (da_cons (dv_newX T.x_InvalidAccess hr rfl (dv_var 0)) (da_cons (dv_newXK T.x_InvalidAccess hr rfl (dv_var 0)) da_nil))))
      (dss_cons (ds_app 1 (dv_tup (da_cons (dv_newX T.x_InvalidNumber hr rfl (dv_var 0)) (da_cons (dv_newXK T.x_InvalidNumber hr rfl (dv_var 0)) da_nil))))
      (dss_cons (ds_app 1 (dv_tup (da_cons (dv_newX T.x_InvalidArray hr rfl (dv_var 0)) (da_cons (dv_newXK T.x_InvalidArray hr rfl (dv_var 0)) da_nil))))
      (dss_cons (ds_app 1 (dv_tup (da_cons (dv_newX T.x_InvalidSchedule hr rfl (dv_var 0)) (da_cons (dv_newXK T.x_InvalidSchedule hr rfl (dv_var 0)) da_nil))))
      (dss_cons (ds_app 1 (dv_tup (da_cons (dv_newX T.x_UnlikeLanes hr rfl (dv_var 0)) (da_cons (dv_newXK T.x_UnlikeLanes hr rfl (dv_var 0)) da_nil))))
      (dss_cons (ds_app 1 (dv_tup (da_cons (dv_newX T.x_Racing hr rfl (dv_var 0)) (da_cons (dv_newXK T.x_Racing hr rfl (dv_var 0)) da_nil))))
      (dss_cons (ds_app 1 (dv_tup (da_cons (dv_newX T.x_NotPlain hr rfl (dv_var 0)) (da_cons (dv_newXK T.x_NotPlain hr rfl (dv_var 0)) da_nil))))
      (dss_cons (ds_app 1 (dv_tup (da_cons (dv_newX T.x_NothingToUndo hr rfl (dv_var 0)) (da_cons (dv_newXK T.x_NothingToUndo hr rfl (dv_var 0)) da_nil))))
      (dss_cons (ds_app 1 (dv_tup (da_cons (dv_newX T.x_Unreadable hr rfl (dv_var 0)) (da_cons (dv_newXK T.x_Unreadable hr rfl (dv_var 0)) da_nil))))
      (dss_cons (ds_ret (dv_frz (do_mv 1)))
      dss_nil)))))))))))))
theorem sc_law : FnScope ["script", "bag", "turn", "thing", "made", "place", "e", "spot"] ["script"] (defScope s_law) := ⟨rfl, rfl, rfl, by decide +kernel, rfl, by decide +kernel, by decide +kernel⟩
theorem ok_law (T : Txt P w K mg cl) : FnP P w K mg base cl 2 T.a_law T.fd_law ["script"] m_law :=
  fnp (N := ["script", "bag", "turn", "thing", "made", "place", "e", "spot"]) (ps := ["script"]) (k := 1) T.F_law sc_law rfl fun cdv A outer s H E C hK hcl hr bd => by
    subst hcl
    have nd := sc_law.nd
    have hu64 := hr.units
    have hu65 : (A.deeper (envOfC "law" (defScope s_law) s.heap.objs.size T.a_law cdv)).units + 65 < cLine := by have := hr.un; omega
    exact (dss_cons (ds_setO (i := 1) nd rfl (Or.inl rfl) (do_call (ok__law_bag T) (L2.Room.mono (j := 1) hr (by decide)) bd.gu bd.tk hK.symm T.mg__law_bag T.F__law_bag.kp T.b__law_bag (dl_pv (dv_var 0) dl_nil)))
      (dss_cons (ds_for bd.own bd.calm (di_rangeW1 rfl T.z_range (da_cons (dv_op op_addA (d_add hK.symm) dv_int (dv_callB (call_min2 bd.calm) c_min2 rfl T.z_min (by decide +kernel) (da_cons dv_int (da_cons (dv_callB call_len (c_len hK.symm) rfl T.z_len (by decide +kernel) (da_cons (dv_var 0) da_nil)) da_nil)))) da_nil)) (dg_name (i := 2) nd rfl (Or.inl rfl))
      (dss_cons (ds_set (i := 3) nd rfl (Or.inl rfl) (dv_ix hK.symm (dv_tup (da_cons dv_non (da_cons (dv_tup (da_cons dv_int (da_cons dv_int (da_cons dv_int (da_cons dv_int da_nil))))) (da_cons dv_str (da_cons (dv_call (ok__law_draw T) (L2.Room.mono (j := 1) hr (by decide)) bd.gu bd.tk hK.symm T.mg__law_draw T.F__law_draw.kp T.b__law_draw (dl_sl 1 (dl_pv (dv_op op_powA d_pow dv_int dv_int) dl_nil))) (da_cons (dv_tup (da_cons dv_int (da_cons dv_int da_nil))) (da_cons (dv_un un_neg d_neg dv_int) da_nil))))))) (dv_call (ok__law_draw T) (L2.Room.mono (j := 1) hr (by decide)) bd.gu bd.tk hK.symm T.mg__law_draw T.F__law_draw.kp T.b__law_draw (dl_sl 1 (dl_pv dv_int dl_nil))) (fun _ _ => rfl)))
      (dss_cons (ds_set (i := 4) nd rfl (Or.inl rfl) (dv_call (ok__law_made T) (L2.Room.mono (j := 1) hr (by decide)) bd.gu bd.tk hK.symm T.mg__law_made T.F__law_made.kp T.b__law_made (dl_pv (dv_var 3) dl_nil)))
      (dss_cons (ds_for bd.own bd.calm (di_rangeW1 rfl T.z_range (da_cons dv_int da_nil)) (dg_name (i := 5) nd rfl (Or.inr rfl))
      (dss_cons (ds_for bd.own bd.calm (di_any hK.symm (dv_ix hK.symm (dv_var 4) (dv_var 5) (fun _ _ => rfl))) (dg_name (i := 6) nd rfl (Or.inl rfl))
      (dss_cons (ds_if (dt_of (dw_or (dt_cmp (op_neD hu64) (d_ne hK.symm) (dv_callB (call_reprD bd.gu hu64) (c_repr hK.symm) rfl T.z_repr (by decide +kernel) (da_cons (dv_xv T.xk (dv_var 6)) da_nil)) (dv_callB (call_reprD bd.gu hu64) (c_repr hK.symm) rfl T.z_repr (by decide +kernel) (da_cons (dv_var 3) da_nil)) (by rfl)) (dw_or (dt_not (dt_tru hK.symm (dv_isX T.xk (by decide) (dv_var 6) rfl T.z_isinstance rfl T.ge_StrideError))) (dw_or1 (dt_not (dt_tru hK.symm (dv_isXve T.xk (dv_var 6) rfl T.z_isinstance rfl T.z_ValueError)))))))
      (dss_cons (ds_ret dv_bl)
      dss_nil)
      dss_nil)
      (dss_cons (ds_if (dt_cmp (op_neD hu64) (d_ne hK.symm) (dv_call (ok__law_flags T) (L2.Room.mono (j := 1) hr (by decide)) bd.gu bd.tk hK.symm T.mg__law_flags T.F__law_flags.kp T.b__law_flags (dl_pv (dv_var 6) dl_nil)) (dv_frz (do_lc (own := [("spot", 7)]) bd.calm nd (blkOk_by (N := ["script", "bag", "turn", "thing", "made", "place", "e", "spot"]) (sc := defScope s_law) (by decide +kernel)) (di_rangeW1 rfl T.z_range (da_cons dv_int da_nil)) (fun _ _ _ _ _ => by exact (dg_name (i := 7) nd rfl (by first | exact Or.inl rfl | exact Or.inr rfl) (hv := by rfl))) (fun _ _ _ _ _ => by exact dts_nil) (fun _ _ _ _ _ => by exact (dv_cmp (op_eqD (by exact hu64)) (d_eq hK.symm) (dv_var 7) (dv_var 5) (by rfl))))) (by rfl))
      (dss_cons (ds_ret dv_bl)
      dss_nil)
      dss_nil)
      dss_nil)))
      dss_nil))
      (dss_cons (ds_if (dt_of (dw_or (dt_cmp (op_neD hu64) (d_ne hK.symm) (dv_callB (call_reprD bd.gu hu64) (c_repr hK.symm) rfl T.z_repr (by decide +kernel) (da_cons (dv_xv T.xk (dv_newX T.x_StrideError hr rfl (dv_var 3))) da_nil)) (dv_callB (call_reprD bd.gu hu64) (c_repr hK.symm) rfl T.z_repr (by decide +kernel) (da_cons (dv_var 3) da_nil)) (by rfl)) (dw_or1 (dt_cmp (op_neD hu64) (d_ne hK.symm) (dv_callB (call_reprD bd.gu hu64) (c_repr hK.symm) rfl T.z_repr (by decide +kernel) (da_cons (dv_xv T.xk (dv_newXK T.x_StrideError hr rfl (dv_var 3))) da_nil)) (dv_callB (call_reprD bd.gu hu64) (c_repr hK.symm) rfl T.z_repr (by decide +kernel) (da_cons (dv_var 3) da_nil)) (by rfl)))))
      (dss_cons (ds_ret dv_bl)
      dss_nil)
      dss_nil)
      dss_nil)))))
      (dss_cons (ds_ret (dv_cmp (op_eqD hu64) (d_eq hK.symm) (dv_call (ok__law_flags T) (L2.Room.mono (j := 1) hr (by decide)) bd.gu bd.tk hK.symm T.mg__law_flags T.F__law_flags.kp T.b__law_flags (dl_pv (dv_newX T.x_StrideError hr rfl dv_str) dl_nil)) (dv_op op_mulA d_mul (dv_frz (do_lst (da_cons dv_bl da_nil))) dv_int) (by rfl)))
      dss_nil)))
end
/-! ### the end -/
def txt_of {prog : Program} {w : World} {K : PySem.W.Frag} {h : Heap} {mg : Str → Option Value} (X : K.In h) (G : h.Ns mainGlobals mg)
    {f0 : Addr} {oc0 kV0 dc0 pm0 cd0 ct0 : Value} {od0 an0 : Option Addr} {sl0 : Array (Option Value)} (a0 : PySem.W.nsIn K mainGlobals "_law_bag" = some (some (.ref f0))) (l0 : K.lookup f0 = some ⟨oc0, od0, .func (PySem.W.fnOf "_law_bag" "_law_bag" (defArgs s__law_bag) (defBody s__law_bag) (defScope s__law_bag) .none kV0 dc0 pm0 an0 cd0 ct0), sl0⟩) (c0 : PySem.W.codeIn K cd0 "_law_bag" = true) (k0 : PySem.W.keepIn K (.ref f0) = true)
    {f1 : Addr} {oc1 kV1 dc1 pm1 cd1 ct1 : Value} {od1 an1 : Option Addr} {sl1 : Array (Option Value)} (a1 : PySem.W.nsIn K mainGlobals "_law_draw" = some (some (.ref f1))) (l1 : K.lookup f1 = some ⟨oc1, od1, .func (PySem.W.fnOf "_law_draw" "_law_draw" (defArgs s__law_draw) (defBody s__law_draw) (defScope s__law_draw) .none kV1 dc1 pm1 an1 cd1 ct1), sl1⟩) (c1 : PySem.W.codeIn K cd1 "_law_draw" = true) (k1 : PySem.W.keepIn K (.ref f1) = true)
    {f2 : Addr} {oc2 kV2 dc2 pm2 cd2 ct2 : Value} {od2 an2 : Option Addr} {sl2 : Array (Option Value)} (a2 : PySem.W.nsIn K mainGlobals "_law_flags" = some (some (.ref f2))) (l2 : K.lookup f2 = some ⟨oc2, od2, .func (PySem.W.fnOf "_law_flags" "_law_flags" (defArgs s__law_flags) (defBody s__law_flags) (defScope s__law_flags) .none kV2 dc2 pm2 an2 cd2 ct2), sl2⟩) (c2 : PySem.W.codeIn K cd2 "_law_flags" = true) (k2 : PySem.W.keepIn K (.ref f2) = true)
    {f3 : Addr} {oc3 kV3 dc3 pm3 cd3 ct3 : Value} {od3 an3 : Option Addr} {sl3 : Array (Option Value)} (a3 : PySem.W.nsIn K mainGlobals "_law_made" = some (some (.ref f3))) (l3 : K.lookup f3 = some ⟨oc3, od3, .func (PySem.W.fnOf "_law_made" "_law_made" (defArgs s__law_made) (defBody s__law_made) (defScope s__law_made) .none kV3 dc3 pm3 an3 cd3 ct3), sl3⟩) (c3 : PySem.W.codeIn K cd3 "_law_made" = true) (k3 : PySem.W.keepIn K (.ref f3) = true)
    {f4 : Addr} {oc4 kV4 dc4 pm4 cd4 ct4 : Value} {od4 an4 : Option Addr} {sl4 : Array (Option Value)} (a4 : PySem.W.nsIn K mainGlobals "law" = some (some (.ref f4))) (l4 : K.lookup f4 = some ⟨oc4, od4, .func (PySem.W.fnOf "law" "law" (defArgs s_law) (defBody s_law) (defScope s_law) .none kV4 dc4 pm4 an4 cd4 ct4), sl4⟩) (c4 : PySem.W.codeIn K cd4 "law" = true) (k4 : PySem.W.keepIn K (.ref f4) = true)
    (z_ValueError : PySem.W.nsIn K mainGlobals "ValueError" = some none)
    (z_abs : PySem.W.nsIn K mainGlobals "abs" = some none)
    (z_isinstance : PySem.W.nsIn K mainGlobals "isinstance" = some none)
    (z_len : PySem.W.nsIn K mainGlobals "len" = some none)
    (z_min : PySem.W.nsIn K mainGlobals "min" = some none)
    (z_range : PySem.W.nsIn K mainGlobals "range" = some none)
    (z_repr : PySem.W.nsIn K mainGlobals "repr" = some none)
    {C_InvalidGuard D_InvalidGuard fI_InvalidGuard cda_InvalidGuard cc_InvalidGuard N_InvalidGuard : Addr} {n_InvalidGuard q_InvalidGuard file_InvalidGuard : Str} {bs_InvalidGuard : List Value} {sn_InvalidGuard : List Str} {sub_InvalidGuard : List Value} {ab_InvalidGuard : Bool} {col_InvalidGuard : Option Bool} {dd_InvalidGuard od_InvalidGuard an_InvalidGuard cdd_InvalidGuard cld_InvalidGuard : Option Addr} {k0_InvalidGuard k1_InvalidGuard k2_InvalidGuard k3_InvalidGuard k5_InvalidGuard : Option Value} {oc_InvalidGuard doc_InvalidGuard pm_InvalidGuard ct_InvalidGuard ccl_InvalidGuard cl_InvalidGuard : Value} {osl_InvalidGuard ccs_InvalidGuard csl_InvalidGuard : Array (Option Value)} {ln_InvalidGuard : Nat} {p1_InvalidGuard p2_InvalidGuard q1_InvalidGuard q2_InvalidGuard q3_InvalidGuard q4_InvalidGuard : Pos} {vs_InvalidGuard : Array Value} {tf_InvalidGuard : Tok}
    (aC_InvalidGuard : PySem.W.nsIn K mainGlobals "InvalidGuard" = some (some (.ref C_InvalidGuard)))
    (xC_InvalidGuard : K.lookup C_InvalidGuard = some (excClassObj n_InvalidGuard q_InvalidGuard C_InvalidGuard N_InvalidGuard bs_InvalidGuard (.ref D_InvalidGuard :: PXE.veBm) true sn_InvalidGuard sub_InvalidGuard ab_InvalidGuard col_InvalidGuard dd_InvalidGuard k0_InvalidGuard k1_InvalidGuard k2_InvalidGuard k3_InvalidGuard k5_InvalidGuard "ValueError.__new__")) (ne_InvalidGuard : (Value.ref C_InvalidGuard != Value.ref D_InvalidGuard) = true)
    (sa_InvalidGuard : PySem.W.findIn K (.ref C_InvalidGuard) "__setattr__" = some (some (.builtin "object.__setattr__"))) (ga_InvalidGuard : PySem.W.findIn K (.ref C_InvalidGuard) "__getattribute__" = some (some (.builtin "BaseException.__getattribute__"))) (gg_InvalidGuard : PySem.W.findIn K (.ref C_InvalidGuard) "__getattr__" = some none) (nv_InvalidGuard : PySem.W.findIn K (.ref C_InvalidGuard) "value" = some none)
    (iC_InvalidGuard : PySem.W.findIn K (.ref C_InvalidGuard) "__init__" = some (some (.ref fI_InvalidGuard))) (tC_InvalidGuard : PySem.W.typeIn K (.ref fI_InvalidGuard) = some (.type "function"))
    (l1_InvalidGuard : K.lookup fI_InvalidGuard = some ⟨oc_InvalidGuard, od_InvalidGuard, .func (PySem.W.ksFn "__init__" "StrideError.__init__" (PXE.xA p1_InvalidGuard p2_InvalidGuard) (PXE.xB ln_InvalidGuard q1_InvalidGuard q2_InvalidGuard q3_InvalidGuard q4_InvalidGuard) PXE.xS .none .none doc_InvalidGuard pm_InvalidGuard an_InvalidGuard (.ref cda_InvalidGuard) ct_InvalidGuard cc_InvalidGuard), osl_InvalidGuard⟩) (c1_InvalidGuard : PySem.W.codeIn K (.ref cda_InvalidGuard) "StrideError.__init__" = true)
    (lc_InvalidGuard : K.lookup cda_InvalidGuard = some ⟨ccl_InvalidGuard, cdd_InvalidGuard, .fields vs_InvalidGuard, ccs_InvalidGuard⟩) (hv_InvalidGuard : vs_InvalidGuard[2]? = some (.str file_InvalidGuard tf_InvalidGuard)) (hf_InvalidGuard : ((prog.main.file : Str) == file_InvalidGuard) = true) (lcc_InvalidGuard : K.lookup cc_InvalidGuard = some ⟨cl_InvalidGuard, cld_InvalidGuard, .cell (some (.ref D_InvalidGuard)), csl_InvalidGuard⟩) (hln_InvalidGuard : ln_InvalidGuard = 5 ∨ ln_InvalidGuard = 8)
    (kC_InvalidGuard : PySem.W.keepIn K (.ref C_InvalidGuard) = true) (eC_InvalidGuard : PySem.W.subIn K (.ref C_InvalidGuard) (.type "BaseException") = some true) (vC_InvalidGuard : PySem.W.subIn K (.ref C_InvalidGuard) (.type "ValueError") = some true) (yC_InvalidGuard : PySem.W.typeIn K (.ref C_InvalidGuard) = some (.type "type")) (hC_InvalidGuard : PySem.W.hasDictIn K C_InvalidGuard = true) (isC_InvalidGuard : PySem.W.isClsIn K C_InvalidGuard = true) (sC_InvalidGuard : PySem.W.subIn K (.ref C_InvalidGuard) (.ref C_InvalidGuard) = some true)
    (ny_InvalidGuard : PySem.W.nsIn K cStatics "thirdparty.any" = some none) (mD_InvalidGuard : PySem.W.mroIn K C_InvalidGuard (.ref D_InvalidGuard) = some true) (isD_InvalidGuard : PySem.W.isClsIn K D_InvalidGuard = true) (zs_InvalidGuard : PySem.W.nsIn K mainGlobals "super" = some none) (tp_InvalidGuard : (prog.main.scope.names.lookup ("super" : Str)).isSome = false)
    {C_InvalidLanes D_InvalidLanes fI_InvalidLanes cda_InvalidLanes cc_InvalidLanes N_InvalidLanes : Addr} {n_InvalidLanes q_InvalidLanes file_InvalidLanes : Str} {bs_InvalidLanes : List Value} {sn_InvalidLanes : List Str} {sub_InvalidLanes : List Value} {ab_InvalidLanes : Bool} {col_InvalidLanes : Option Bool} {dd_InvalidLanes od_InvalidLanes an_InvalidLanes cdd_InvalidLanes cld_InvalidLanes : Option Addr} {k0_InvalidLanes k1_InvalidLanes k2_InvalidLanes k3_InvalidLanes k5_InvalidLanes : Option Value} {oc_InvalidLanes doc_InvalidLanes pm_InvalidLanes ct_InvalidLanes ccl_InvalidLanes cl_InvalidLanes : Value} {osl_InvalidLanes ccs_InvalidLanes csl_InvalidLanes : Array (Option Value)} {ln_InvalidLanes : Nat} {p1_InvalidLanes p2_InvalidLanes q1_InvalidLanes q2_InvalidLanes q3_InvalidLanes q4_InvalidLanes : Pos} {vs_InvalidLanes : Array Value} {tf_InvalidLanes : Tok}
    (aC_InvalidLanes : PySem.W.nsIn K mainGlobals "InvalidLanes" = some (some (.ref C_InvalidLanes)))
    (xC_InvalidLanes : K.lookup C_InvalidLanes = some (excClassObj n_InvalidLanes q_InvalidLanes C_InvalidLanes N_InvalidLanes bs_InvalidLanes (.ref D_InvalidLanes :: PXE.veBm) true sn_InvalidLanes sub_InvalidLanes ab_InvalidLanes col_InvalidLanes dd_InvalidLanes k0_InvalidLanes k1_InvalidLanes k2_InvalidLanes k3_InvalidLanes k5_InvalidLanes "ValueError.__new__")) (ne_InvalidLanes : (Value.ref C_InvalidLanes != Value.ref D_InvalidLanes) = true)
    (sa_InvalidLanes : PySem.W.findIn K (.ref C_InvalidLanes) "__setattr__" = some (some (.builtin "object.__setattr__"))) (ga_InvalidLanes : PySem.W.findIn K (.ref C_InvalidLanes) "__getattribute__" = some (some (.builtin "BaseException.__getattribute__"))) (gg_InvalidLanes : PySem.W.findIn K (.ref C_InvalidLanes) "__getattr__" = some none) (nv_InvalidLanes : PySem.W.findIn K (.ref C_InvalidLanes) "value" = some none)
    (iC_InvalidLanes : PySem.W.findIn K (.ref C_InvalidLanes) "__init__" = some (some (.ref fI_InvalidLanes))) (tC_InvalidLanes : PySem.W.typeIn K (.ref fI_InvalidLanes) = some (.type "function"))
    (l1_InvalidLanes : K.lookup fI_InvalidLanes = some ⟨oc_InvalidLanes, od_InvalidLanes, .func (PySem.W.ksFn "__init__" "StrideError.__init__" (PXE.xA p1_InvalidLanes p2_InvalidLanes) (PXE.xB ln_InvalidLanes q1_InvalidLanes q2_InvalidLanes q3_InvalidLanes q4_InvalidLanes) PXE.xS .none .none doc_InvalidLanes pm_InvalidLanes an_InvalidLanes (.ref cda_InvalidLanes) ct_InvalidLanes cc_InvalidLanes), osl_InvalidLanes⟩) (c1_InvalidLanes : PySem.W.codeIn K (.ref cda_InvalidLanes) "StrideError.__init__" = true)
    (lc_InvalidLanes : K.lookup cda_InvalidLanes = some ⟨ccl_InvalidLanes, cdd_InvalidLanes, .fields vs_InvalidLanes, ccs_InvalidLanes⟩) (hv_InvalidLanes : vs_InvalidLanes[2]? = some (.str file_InvalidLanes tf_InvalidLanes)) (hf_InvalidLanes : ((prog.main.file : Str) == file_InvalidLanes) = true) (lcc_InvalidLanes : K.lookup cc_InvalidLanes = some ⟨cl_InvalidLanes, cld_InvalidLanes, .cell (some (.ref D_InvalidLanes)), csl_InvalidLanes⟩) (hln_InvalidLanes : ln_InvalidLanes = 5 ∨ ln_InvalidLanes = 8)
    (kC_InvalidLanes : PySem.W.keepIn K (.ref C_InvalidLanes) = true) (eC_InvalidLanes : PySem.W.subIn K (.ref C_InvalidLanes) (.type "BaseException") = some true) (vC_InvalidLanes : PySem.W.subIn K (.ref C_InvalidLanes) (.type "ValueError") = some true) (yC_InvalidLanes : PySem.W.typeIn K (.ref C_InvalidLanes) = some (.type "type")) (hC_InvalidLanes : PySem.W.hasDictIn K C_InvalidLanes = true) (isC_InvalidLanes : PySem.W.isClsIn K C_InvalidLanes = true) (sC_InvalidLanes : PySem.W.subIn K (.ref C_InvalidLanes) (.ref C_InvalidLanes) = some true)
    (ny_InvalidLanes : PySem.W.nsIn K cStatics "thirdparty.any" = some none) (mD_InvalidLanes : PySem.W.mroIn K C_InvalidLanes (.ref D_InvalidLanes) = some true) (isD_InvalidLanes : PySem.W.isClsIn K D_InvalidLanes = true) (zs_InvalidLanes : PySem.W.nsIn K mainGlobals "super" = some none) (tp_InvalidLanes : (prog.main.scope.names.lookup ("super" : Str)).isSome = false)
    {C_InvalidStatement D_InvalidStatement fI_InvalidStatement cda_InvalidStatement cc_InvalidStatement N_InvalidStatement : Addr} {n_InvalidStatement q_InvalidStatement file_InvalidStatement : Str} {bs_InvalidStatement : List Value} {sn_InvalidStatement : List Str} {sub_InvalidStatement : List Value} {ab_InvalidStatement : Bool} {col_InvalidStatement : Option Bool} {dd_InvalidStatement od_InvalidStatement an_InvalidStatement cdd_InvalidStatement cld_InvalidStatement : Option Addr} {k0_InvalidStatement k1_InvalidStatement k2_InvalidStatement k3_InvalidStatement k5_InvalidStatement : Option Value} {oc_InvalidStatement doc_InvalidStatement pm_InvalidStatement ct_InvalidStatement ccl_InvalidStatement cl_InvalidStatement : Value} {osl_InvalidStatement ccs_InvalidStatement csl_InvalidStatement : Array (Option Value)} {ln_InvalidStatement : Nat} {p1_InvalidStatement p2_InvalidStatement q1_InvalidStatement q2_InvalidStatement q3_InvalidStatement q4_InvalidStatement : Pos} {vs_InvalidStatement : Array Value} {tf_InvalidStatement : Tok}
    (aC_InvalidStatement : PySem.W.nsIn K mainGlobals "InvalidStatement" = some (some (.ref C_InvalidStatement)))
    (xC_InvalidStatement : K.lookup C_InvalidStatement = some (excClassObj n_InvalidStatement q_InvalidStatement C_InvalidStatement N_InvalidStatement bs_InvalidStatement (.ref D_InvalidStatement :: PXE.veBm) true sn_InvalidStatement sub_InvalidStatement ab_InvalidStatement col_InvalidStatement dd_InvalidStatement k0_InvalidStatement k1_InvalidStatement k2_InvalidStatement k3_InvalidStatement k5_InvalidStatement "ValueError.__new__")) (ne_InvalidStatement : (Value.ref C_InvalidStatement != Value.ref D_InvalidStatement) = true)
    (sa_InvalidStatement : PySem.W.findIn K (.ref C_InvalidStatement) "__setattr__" = some (some (.builtin "object.__setattr__"))) (ga_InvalidStatement : PySem.W.findIn K (.ref C_InvalidStatement) "__getattribute__" = some (some (.builtin "BaseException.__getattribute__"))) (gg_InvalidStatement : PySem.W.findIn K (.ref C_InvalidStatement) "__getattr__" = some none) (nv_InvalidStatement : PySem.W.findIn K (.ref C_InvalidStatement) "value" = some none)
    (iC_InvalidStatement : PySem.W.findIn K (.ref C_InvalidStatement) "__init__" = some (some (.ref fI_InvalidStatement))) (tC_InvalidStatement : PySem.W.typeIn K (.ref fI_InvalidStatement) = some (.type "function"))
    (l1_InvalidStatement : K.lookup fI_InvalidStatement = some ⟨oc_InvalidStatement, od_InvalidStatement, .func (PySem.W.ksFn "__init__" "StrideError.__init__" (PXE.xA p1_InvalidStatement p2_InvalidStatement) (PXE.xB ln_InvalidStatement q1_InvalidStatement q2_InvalidStatement q3_InvalidStatement q4_InvalidStatement) PXE.xS .none .none doc_InvalidStatement pm_InvalidStatement an_InvalidStatement (.ref cda_InvalidStatement) ct_InvalidStatement cc_InvalidStatement), osl_InvalidStatement⟩) (c1_InvalidStatement : PySem.W.codeIn K (.ref cda_InvalidStatement) "StrideError.__init__" = true)
    (lc_InvalidStatement : K.lookup cda_InvalidStatement = some ⟨ccl_InvalidStatement, cdd_InvalidStatement, .fields vs_InvalidStatement, ccs_InvalidStatement⟩) (hv_InvalidStatement : vs_InvalidStatement[2]? = some (.str file_InvalidStatement tf_InvalidStatement)) (hf_InvalidStatement : ((prog.main.file : Str) == file_InvalidStatement) = true) (lcc_InvalidStatement : K.lookup cc_InvalidStatement = some ⟨cl_InvalidStatement, cld_InvalidStatement, .cell (some (.ref D_InvalidStatement)), csl_InvalidStatement⟩) (hln_InvalidStatement : ln_InvalidStatement = 5 ∨ ln_InvalidStatement = 8)
    (kC_InvalidStatement : PySem.W.keepIn K (.ref C_InvalidStatement) = true) (eC_InvalidStatement : PySem.W.subIn K (.ref C_InvalidStatement) (.type "BaseException") = some true) (vC_InvalidStatement : PySem.W.subIn K (.ref C_InvalidStatement) (.type "ValueError") = some true) (yC_InvalidStatement : PySem.W.typeIn K (.ref C_InvalidStatement) = some (.type "type")) (hC_InvalidStatement : PySem.W.hasDictIn K C_InvalidStatement = true) (isC_InvalidStatement : PySem.W.isClsIn K C_InvalidStatement = true) (sC_InvalidStatement : PySem.W.subIn K (.ref C_InvalidStatement) (.ref C_InvalidStatement) = some true)
    (ny_InvalidStatement : PySem.W.nsIn K cStatics "thirdparty.any" = some none) (mD_InvalidStatement : PySem.W.mroIn K C_InvalidStatement (.ref D_InvalidStatement) = some true) (isD_InvalidStatement : PySem.W.isClsIn K D_InvalidStatement = true) (zs_InvalidStatement : PySem.W.nsIn K mainGlobals "super" = some none) (tp_InvalidStatement : (prog.main.scope.names.lookup ("super" : Str)).isSome = false)
    {C_InvalidBarrier D_InvalidBarrier fI_InvalidBarrier cda_InvalidBarrier cc_InvalidBarrier N_InvalidBarrier : Addr} {n_InvalidBarrier q_InvalidBarrier file_InvalidBarrier : Str} {bs_InvalidBarrier : List Value} {sn_InvalidBarrier : List Str} {sub_InvalidBarrier : List Value} {ab_InvalidBarrier : Bool} {col_InvalidBarrier : Option Bool} {dd_InvalidBarrier od_InvalidBarrier an_InvalidBarrier cdd_InvalidBarrier cld_InvalidBarrier : Option Addr} {k0_InvalidBarrier k1_InvalidBarrier k2_InvalidBarrier k3_InvalidBarrier k5_InvalidBarrier : Option Value} {oc_InvalidBarrier doc_InvalidBarrier pm_InvalidBarrier ct_InvalidBarrier ccl_InvalidBarrier cl_InvalidBarrier : Value} {osl_InvalidBarrier ccs_InvalidBarrier csl_InvalidBarrier : Array (Option Value)} {ln_InvalidBarrier : Nat} {p1_InvalidBarrier p2_InvalidBarrier q1_InvalidBarrier q2_InvalidBarrier q3_InvalidBarrier q4_InvalidBarrier : Pos} {vs_InvalidBarrier : Array Value} {tf_InvalidBarrier : Tok}
    (aC_InvalidBarrier : PySem.W.nsIn K mainGlobals "InvalidBarrier" = some (some (.ref C_InvalidBarrier)))
    (xC_InvalidBarrier : K.lookup C_InvalidBarrier = some (excClassObj n_InvalidBarrier q_InvalidBarrier C_InvalidBarrier N_InvalidBarrier bs_InvalidBarrier (.ref D_InvalidBarrier :: PXE.veBm) true sn_InvalidBarrier sub_InvalidBarrier ab_InvalidBarrier col_InvalidBarrier dd_InvalidBarrier k0_InvalidBarrier k1_InvalidBarrier k2_InvalidBarrier k3_InvalidBarrier k5_InvalidBarrier "ValueError.__new__")) (ne_InvalidBarrier : (Value.ref C_InvalidBarrier != Value.ref D_InvalidBarrier) = true)
    (sa_InvalidBarrier : PySem.W.findIn K (.ref C_InvalidBarrier) "__setattr__" = some (some (.builtin "object.__setattr__"))) (ga_InvalidBarrier : PySem.W.findIn K (.ref C_InvalidBarrier) "__getattribute__" = some (some (.builtin "BaseException.__getattribute__"))) (gg_InvalidBarrier : PySem.W.findIn K (.ref C_InvalidBarrier) "__getattr__" = some none) (nv_InvalidBarrier : PySem.W.findIn K (.ref C_InvalidBarrier) "value" = some none)
    (iC_InvalidBarrier : PySem.W.findIn K (.ref C_InvalidBarrier) "__init__" = some (some (.ref fI_InvalidBarrier))) (tC_InvalidBarrier : PySem.W.typeIn K (.ref fI_InvalidBarrier) = some (.type "function"))
    (l1_InvalidBarrier : K.lookup fI_InvalidBarrier = some ⟨oc_InvalidBarrier, od_InvalidBarrier, .func (PySem.W.ksFn "__init__" "StrideError.__init__" (PXE.xA p1_InvalidBarrier p2_InvalidBarrier) (PXE.xB ln_InvalidBarrier q1_InvalidBarrier q2_InvalidBarrier q3_InvalidBarrier q4_InvalidBarrier) PXE.xS .none .none doc_InvalidBarrier pm_InvalidBarrier an_InvalidBarrier (.ref cda_InvalidBarrier) ct_InvalidBarrier cc_InvalidBarrier), osl_InvalidBarrier⟩) (c1_InvalidBarrier : PySem.W.codeIn K (.ref cda_InvalidBarrier) "StrideError.__init__" = true)
    (lc_InvalidBarrier : K.lookup cda_InvalidBarrier = some ⟨ccl_InvalidBarrier, cdd_InvalidBarrier, .fields vs_InvalidBarrier, ccs_InvalidBarrier⟩) (hv_InvalidBarrier : vs_InvalidBarrier[2]? = some (.str file_InvalidBarrier tf_InvalidBarrier)) (hf_InvalidBarrier : ((prog.main.file : Str) == file_InvalidBarrier) = true) (lcc_InvalidBarrier : K.lookup cc_InvalidBarrier = some ⟨cl_InvalidBarrier, cld_InvalidBarrier, .cell (some (.ref D_InvalidBarrier)), csl_InvalidBarrier⟩) (hln_InvalidBarrier : ln_InvalidBarrier = 5 ∨ ln_InvalidBarrier = 8)
    (kC_InvalidBarrier : PySem.W.keepIn K (.ref C_InvalidBarrier) = true) (eC_InvalidBarrier : PySem.W.subIn K (.ref C_InvalidBarrier) (.type "BaseException") = some true) (vC_InvalidBarrier : PySem.W.subIn K (.ref C_InvalidBarrier) (.type "ValueError") = some true) (yC_InvalidBarrier : PySem.W.typeIn K (.ref C_InvalidBarrier) = some (.type "type")) (hC_InvalidBarrier : PySem.W.hasDictIn K C_InvalidBarrier = true) (isC_InvalidBarrier : PySem.W.isClsIn K C_InvalidBarrier = true) (sC_InvalidBarrier : PySem.W.subIn K (.ref C_InvalidBarrier) (.ref C_InvalidBarrier) = some true)
    (ny_InvalidBarrier : PySem.W.nsIn K cStatics "thirdparty.any" = some none) (mD_InvalidBarrier : PySem.W.mroIn K C_InvalidBarrier (.ref D_InvalidBarrier) = some true) (isD_InvalidBarrier : PySem.W.isClsIn K D_InvalidBarrier = true) (zs_InvalidBarrier : PySem.W.nsIn K mainGlobals "super" = some none) (tp_InvalidBarrier : (prog.main.scope.names.lookup ("super" : Str)).isSome = false)
    {C_InvalidAccess D_InvalidAccess fI_InvalidAccess cda_InvalidAccess cc_InvalidAccess N_InvalidAccess : Addr} {n_InvalidAccess q_InvalidAccess file_InvalidAccess : Str} {bs_InvalidAccess : List Value} {sn_InvalidAccess : List Str} {sub_InvalidAccess : List Value} {ab_InvalidAccess : Bool} {col_InvalidAccess : Option Bool} {dd_InvalidAccess od_InvalidAccess an_InvalidAccess cdd_InvalidAccess cld_InvalidAccess : Option Addr} {k0_InvalidAccess k1_InvalidAccess k2_InvalidAccess k3_InvalidAccess k5_InvalidAccess : Option Value} {oc_InvalidAccess doc_InvalidAccess pm_InvalidAccess ct_InvalidAccess ccl_InvalidAccess cl_InvalidAccess : Value} {osl_InvalidAccess ccs_InvalidAccess csl_InvalidAccess : Array (Option Value)} {ln_InvalidAccess : Nat} {p1_InvalidAccess p2_InvalidAccess q1_InvalidAccess q2_InvalidAccess q3_InvalidAccess q4_InvalidAccess : Pos} {vs_InvalidAccess : Array Value} {tf_InvalidAccess : Tok}
    (aC_InvalidAccess : PySem.W.nsIn K mainGlobals "InvalidAccess" = some (some (.ref C_InvalidAccess)))
    (xC_InvalidAccess : K.lookup C_InvalidAccess = some (excClassObj n_InvalidAccess q_InvalidAccess C_InvalidAccess N_InvalidAccess bs_InvalidAccess (.ref D_InvalidAccess :: PXE.veBm) true sn_InvalidAccess sub_InvalidAccess ab_InvalidAccess col_InvalidAccess dd_InvalidAccess k0_InvalidAccess k1_InvalidAccess k2_InvalidAccess k3_InvalidAccess k5_InvalidAccess "ValueError.__new__")) (ne_InvalidAccess : (Value.ref C_InvalidAccess != Value.ref D_InvalidAccess) = true)
    (sa_InvalidAccess : PySem.W.findIn K (.ref C_InvalidAccess) "__setattr__" = some (some (.builtin "object.__setattr__"))) (ga_InvalidAccess : PySem.W.findIn K (.ref C_InvalidAccess) "__getattribute__" = some (some (.builtin "BaseException.__getattribute__"))) (gg_InvalidAccess : PySem.W.findIn K (.ref C_InvalidAccess) "__getattr__" = some none) (nv_InvalidAccess : PySem.W.findIn K (.ref C_InvalidAccess) "value" = some none)
    (iC_InvalidAccess : PySem.W.findIn K (.ref C_InvalidAccess) "__init__" = some (some (.ref fI_InvalidAccess))) (tC_InvalidAccess : PySem.W.typeIn K (.ref fI_InvalidAccess) = some (.type "function"))
    (l1_InvalidAccess : K.lookup fI_InvalidAccess = some ⟨oc_InvalidAccess, od_InvalidAccess, .func (PySem.W.ksFn "__init__" "StrideError.__init__" (PXE.xA p1_InvalidAccess p2_InvalidAccess) (PXE.xB ln_InvalidAccess q1_InvalidAccess q2_InvalidAccess q3_InvalidAccess q4_InvalidAccess) PXE.xS .none .none doc_InvalidAccess pm_InvalidAccess an_InvalidAccess (.ref cda_InvalidAccess) ct_InvalidAccess cc_InvalidAccess), osl_InvalidAccess⟩) (c1_InvalidAccess : PySem.W.codeIn K (.ref cda_InvalidAccess) "StrideError.__init__" = true)
    (lc_InvalidAccess : K.lookup cda_InvalidAccess = some ⟨ccl_InvalidAccess, cdd_InvalidAccess, .fields vs_InvalidAccess, ccs_InvalidAccess⟩) (hv_InvalidAccess : vs_InvalidAccess[2]? = some (.str file_InvalidAccess tf_InvalidAccess)) (hf_InvalidAccess : ((prog.main.file : Str) == file_InvalidAccess) = true) (lcc_InvalidAccess : K.lookup cc_InvalidAccess = some ⟨cl_InvalidAccess, cld_InvalidAccess, .cell (some (.ref D_InvalidAccess)), csl_InvalidAccess⟩) (hln_InvalidAccess : ln_InvalidAccess = 5 ∨ ln_InvalidAccess = 8)
    (kC_InvalidAccess : PySem.W.keepIn K (.ref C_InvalidAccess) = true) (eC_InvalidAccess : PySem.W.subIn K (.ref C_InvalidAccess) (.type "BaseException") = some true) (vC_InvalidAccess : PySem.W.subIn K (.ref C_InvalidAccess) (.type "ValueError") = some true) (yC_InvalidAccess : PySem.W.typeIn K (.ref C_InvalidAccess) = some (.type "type")) (hC_InvalidAccess : PySem.W.hasDictIn K C_InvalidAccess = true) (isC_InvalidAccess : PySem.W.isClsIn K C_InvalidAccess = true) (sC_InvalidAccess : PySem.W.subIn K (.ref C_InvalidAccess) (.ref C_InvalidAccess) = some true)
    (ny_InvalidAccess : PySem.W.nsIn K cStatics "thirdparty.any" = some none) (mD_InvalidAccess : PySem.W.mroIn K C_InvalidAccess (.ref D_InvalidAccess) = some true) (isD_InvalidAccess : PySem.W.isClsIn K D_InvalidAccess = true) (zs_InvalidAccess : PySem.W.nsIn K mainGlobals "super" = some none) (tp_InvalidAccess : (prog.main.scope.names.lookup ("super" : Str)).isSome = false)
    {C_InvalidNumber D_InvalidNumber fI_InvalidNumber cda_InvalidNumber cc_InvalidNumber N_InvalidNumber : Addr} {n_InvalidNumber q_InvalidNumber file_InvalidNumber : Str} {bs_InvalidNumber : List Value} {sn_InvalidNumber : List Str} {sub_InvalidNumber : List Value} {ab_InvalidNumber : Bool} {col_InvalidNumber : Option Bool} {dd_InvalidNumber od_InvalidNumber an_InvalidNumber cdd_InvalidNumber cld_InvalidNumber : Option Addr} {k0_InvalidNumber k1_InvalidNumber k2_InvalidNumber k3_InvalidNumber k5_InvalidNumber : Option Value} {oc_InvalidNumber doc_InvalidNumber pm_InvalidNumber ct_InvalidNumber ccl_InvalidNumber cl_InvalidNumber : Value} {osl_InvalidNumber ccs_InvalidNumber csl_InvalidNumber : Array (Option Value)} {ln_InvalidNumber : Nat} {p1_InvalidNumber p2_InvalidNumber q1_InvalidNumber q2_InvalidNumber q3_InvalidNumber q4_InvalidNumber : Pos} {vs_InvalidNumber : Array Value} {tf_InvalidNumber : Tok}
    (aC_InvalidNumber : PySem.W.nsIn K mainGlobals "InvalidNumber" = some (some (.ref C_InvalidNumber)))
    (xC_InvalidNumber : K.lookup C_InvalidNumber = some (excClassObj n_InvalidNumber q_InvalidNumber C_InvalidNumber N_InvalidNumber bs_InvalidNumber (.ref D_InvalidNumber :: PXE.veBm) true sn_InvalidNumber sub_InvalidNumber ab_InvalidNumber col_InvalidNumber dd_InvalidNumber k0_InvalidNumber k1_InvalidNumber k2_InvalidNumber k3_InvalidNumber k5_InvalidNumber "ValueError.__new__")) (ne_InvalidNumber : (Value.ref C_InvalidNumber != Value.ref D_InvalidNumber) = true)
    (sa_InvalidNumber : PySem.W.findIn K (.ref C_InvalidNumber) "__setattr__" = some (some (.builtin "object.__setattr__"))) (ga_InvalidNumber : PySem.W.findIn K (.ref C_InvalidNumber) "__getattribute__" = some (some (.builtin "BaseException.__getattribute__"))) (gg_InvalidNumber : PySem.W.findIn K (.ref C_InvalidNumber) "__getattr__" = some none) (nv_InvalidNumber : PySem.W.findIn K (.ref C_InvalidNumber) "value" = some none)
    (iC_InvalidNumber : PySem.W.findIn K (.ref C_InvalidNumber) "__init__" = some (some (.ref fI_InvalidNumber))) (tC_InvalidNumber : PySem.W.typeIn K (.ref fI_InvalidNumber) = some (.type "function"))
    (l1_InvalidNumber : K.lookup fI_InvalidNumber = some ⟨oc_InvalidNumber, od_InvalidNumber, .func (PySem.W.ksFn "__init__" "StrideError.__init__" (PXE.xA p1_InvalidNumber p2_InvalidNumber) (PXE.xB ln_InvalidNumber q1_InvalidNumber q2_InvalidNumber q3_InvalidNumber q4_InvalidNumber) PXE.xS .none .none doc_InvalidNumber pm_InvalidNumber an_InvalidNumber (.ref cda_InvalidNumber) ct_InvalidNumber cc_InvalidNumber), osl_InvalidNumber⟩) (c1_InvalidNumber : PySem.W.codeIn K (.ref cda_InvalidNumber) "StrideError.__init__" = true)
    (lc_InvalidNumber : K.lookup cda_InvalidNumber = some ⟨ccl_InvalidNumber, cdd_InvalidNumber, .fields vs_InvalidNumber, ccs_InvalidNumber⟩) (hv_InvalidNumber : vs_InvalidNumber[2]? = some (.str file_InvalidNumber tf_InvalidNumber)) (hf_InvalidNumber : ((prog.main.file : Str) == file_InvalidNumber) = true) (lcc_InvalidNumber : K.lookup cc_InvalidNumber = some ⟨cl_InvalidNumber, cld_InvalidNumber, .cell (some (.ref D_InvalidNumber)), csl_InvalidNumber⟩) (hln_InvalidNumber : ln_InvalidNumber = 5 ∨ ln_InvalidNumber = 8)
    (kC_InvalidNumber : PySem.W.keepIn K (.ref C_InvalidNumber) = true) (eC_InvalidNumber : PySem.W.subIn K (.ref C_InvalidNumber) (.type "BaseException") = some true) (vC_InvalidNumber : PySem.W.subIn K (.ref C_InvalidNumber) (.type "ValueError") = some true) (yC_InvalidNumber : PySem.W.typeIn K (.ref C_InvalidNumber) = some (.type "type")) (hC_InvalidNumber : PySem.W.hasDictIn K C_InvalidNumber = true) (isC_InvalidNumber : PySem.W.isClsIn K C_InvalidNumber = true) (sC_InvalidNumber : PySem.W.subIn K (.ref C_InvalidNumber) (.ref C_InvalidNumber) = some true)
    (ny_InvalidNumber : PySem.W.nsIn K cStatics "thirdparty.any" = some none) (mD_InvalidNumber : PySem.W.mroIn K C_InvalidNumber (.ref D_InvalidNumber) = some true) (isD_InvalidNumber : PySem.W.isClsIn K D_InvalidNumber = true) (zs_InvalidNumber : PySem.W.nsIn K mainGlobals "super" = some none) (tp_InvalidNumber : (prog.main.scope.names.lookup ("super" : Str)).isSome = false)
    {C_InvalidArray D_InvalidArray fI_InvalidArray cda_InvalidArray cc_InvalidArray N_InvalidArray : Addr} {n_InvalidArray q_InvalidArray file_InvalidArray : Str} {bs_InvalidArray : List Value} {sn_InvalidArray : List Str} {sub_InvalidArray : List Value} {ab_InvalidArray : Bool} {col_InvalidArray : Option Bool} {dd_InvalidArray od_InvalidArray an_InvalidArray cdd_InvalidArray cld_InvalidArray : Option Addr} {k0_InvalidArray k1_InvalidArray k2_InvalidArray k3_InvalidArray k5_InvalidArray : Option Value} {oc_InvalidArray doc_InvalidArray pm_InvalidArray ct_InvalidArray ccl_InvalidArray cl_InvalidArray : Value} {osl_InvalidArray ccs_InvalidArray csl_InvalidArray : Array (Option Value)} {ln_InvalidArray : Nat} {p1_InvalidArray p2_InvalidArray q1_InvalidArray q2_InvalidArray q3_InvalidArray q4_InvalidArray : Pos} {vs_InvalidArray : Array Value} {tf_InvalidArray : Tok}
    (aC_InvalidArray : PySem.W.nsIn K mainGlobals "InvalidArray" = some (some (.ref C_InvalidArray)))
    (xC_InvalidArray : K.lookup C_InvalidArray = some (excClassObj n_InvalidArray q_InvalidArray C_InvalidArray N_InvalidArray bs_InvalidArray (.ref D_InvalidArray :: PXE.veBm) true sn_InvalidArray sub_InvalidArray ab_InvalidArray col_InvalidArray dd_InvalidArray k0_InvalidArray k1_InvalidArray k2_InvalidArray k3_InvalidArray k5_InvalidArray "ValueError.__new__")) (ne_InvalidArray : (Value.ref C_InvalidArray != Value.ref D_InvalidArray) = true)
    (sa_InvalidArray : PySem.W.findIn K (.ref C_InvalidArray) "__setattr__" = some (some (.builtin "object.__setattr__"))) (ga_InvalidArray : PySem.W.findIn K (.ref C_InvalidArray) "__getattribute__" = some (some (.builtin "BaseException.__getattribute__"))) (gg_InvalidArray : PySem.W.findIn K (.ref C_InvalidArray) "__getattr__" = some none) (nv_InvalidArray : PySem.W.findIn K (.ref C_InvalidArray) "value" = some none)
    (iC_InvalidArray : PySem.W.findIn K (.ref C_InvalidArray) "__init__" = some (some (.ref fI_InvalidArray))) (tC_InvalidArray : PySem.W.typeIn K (.ref fI_InvalidArray) = some (.type "function"))
    (l1_InvalidArray : K.lookup fI_InvalidArray = some ⟨oc_InvalidArray, od_InvalidArray, .func (PySem.W.ksFn "__init__" "StrideError.__init__" (PXE.xA p1_InvalidArray p2_InvalidArray) (PXE.xB ln_InvalidArray q1_InvalidArray q2_InvalidArray q3_InvalidArray q4_InvalidArray) PXE.xS .none .none doc_InvalidArray pm_InvalidArray an_InvalidArray (.ref cda_InvalidArray) ct_InvalidArray cc_InvalidArray), osl_InvalidArray⟩) (c1_InvalidArray : PySem.W.codeIn K (.ref cda_InvalidArray) "StrideError.__init__" = true)
    (lc_InvalidArray : K.lookup cda_InvalidArray = some ⟨ccl_InvalidArray, cdd_InvalidArray, .fields vs_InvalidArray, ccs_InvalidArray⟩) (hv_InvalidArray : vs_InvalidArray[2]? = some (.str file_InvalidArray tf_InvalidArray)) (hf_InvalidArray : ((prog.main.file : Str) == file_InvalidArray) = true) (lcc_InvalidArray : K.lookup cc_InvalidArray = some ⟨cl_InvalidArray, cld_InvalidArray, .cell (some (.ref D_InvalidArray)), csl_InvalidArray⟩) (hln_InvalidArray : ln_InvalidArray = 5 ∨ ln_InvalidArray = 8)
    (kC_InvalidArray : PySem.W.keepIn K (.ref C_InvalidArray) = true) (eC_InvalidArray : PySem.W.subIn K (.ref C_InvalidArray) (.type "BaseException") = some true) (vC_InvalidArray : PySem.W.subIn K (.ref C_InvalidArray) (.type "ValueError") = some true) (yC_InvalidArray : PySem.W.typeIn K (.ref C_InvalidArray) = some (.type "type")) (hC_InvalidArray : PySem.W.hasDictIn K C_InvalidArray = true) (isC_InvalidArray : PySem.W.isClsIn K C_InvalidArray = true) (sC_InvalidArray : PySem.W.subIn K (.ref C_InvalidArray) (.ref C_InvalidArray) = some true)
    (ny_InvalidArray : PySem.W.nsIn K cStatics "thirdparty.any" = some none) (mD_InvalidArray : PySem.W.mroIn K C_InvalidArray (.ref D_InvalidArray) = some true) (isD_InvalidArray : PySem.W.isClsIn K D_InvalidArray = true) (zs_InvalidArray : PySem.W.nsIn K mainGlobals "super" = some none) (tp_InvalidArray : (prog.main.scope.names.lookup ("super" : Str)).isSome = false)
    {C_InvalidSchedule D_InvalidSchedule fI_InvalidSchedule cda_InvalidSchedule cc_InvalidSchedule N_InvalidSchedule : Addr} {n_InvalidSchedule q_InvalidSchedule file_InvalidSchedule : Str} {bs_InvalidSchedule : List Value} {sn_InvalidSchedule : List Str} {sub_InvalidSchedule : List Value} {ab_InvalidSchedule : Bool} {col_InvalidSchedule : Option Bool} {dd_InvalidSchedule od_InvalidSchedule an_InvalidSchedule cdd_InvalidSchedule cld_InvalidSchedule : Option Addr} {k0_InvalidSchedule k1_InvalidSchedule k2_InvalidSchedule k3_InvalidSchedule k5_InvalidSchedule : Option Value} {oc_InvalidSchedule doc_InvalidSchedule pm_InvalidSchedule ct_InvalidSchedule ccl_InvalidSchedule cl_InvalidSchedule : Value} {osl_InvalidSchedule ccs_InvalidSchedule csl_InvalidSchedule : Array (Option Value)} {ln_InvalidSchedule : Nat} {p1_InvalidSchedule p2_InvalidSchedule q1_InvalidSchedule q2_InvalidSchedule q3_InvalidSchedule q4_InvalidSchedule : Pos} {vs_InvalidSchedule : Array Value} {tf_InvalidSchedule : Tok}
    (aC_InvalidSchedule : PySem.W.nsIn K mainGlobals "InvalidSchedule" = some (some (.ref C_InvalidSchedule)))
    (xC_InvalidSchedule : K.lookup C_InvalidSchedule = some (excClassObj n_InvalidSchedule q_InvalidSchedule C_InvalidSchedule N_InvalidSchedule bs_InvalidSchedule (.ref D_InvalidSchedule :: PXE.veBm) true sn_InvalidSchedule sub_InvalidSchedule ab_InvalidSchedule col_InvalidSchedule dd_InvalidSchedule k0_InvalidSchedule k1_InvalidSchedule k2_InvalidSchedule k3_InvalidSchedule k5_InvalidSchedule "ValueError.__new__")) (ne_InvalidSchedule : (Value.ref C_InvalidSchedule != Value.ref D_InvalidSchedule) = true)
    (sa_InvalidSchedule : PySem.W.findIn K (.ref C_InvalidSchedule) "__setattr__" = some (some (.builtin "object.__setattr__"))) (ga_InvalidSchedule : PySem.W.findIn K (.ref C_InvalidSchedule) "__getattribute__" = some (some (.builtin "BaseException.__getattribute__"))) (gg_InvalidSchedule : PySem.W.findIn K (.ref C_InvalidSchedule) "__getattr__" = some none) (nv_InvalidSchedule : PySem.W.findIn K (.ref C_InvalidSchedule) "value" = some none)
    (iC_InvalidSchedule : PySem.W.findIn K (.ref C_InvalidSchedule) "__init__" = some (some (.ref fI_InvalidSchedule))) (tC_InvalidSchedule : PySem.W.typeIn K (.ref fI_InvalidSchedule) = some (.type "function"))
    (l1_InvalidSchedule : K.lookup fI_InvalidSchedule = some ⟨oc_InvalidSchedule, od_InvalidSchedule, .func (PySem.W.ksFn "__init__" "StrideError.__init__" (PXE.xA p1_InvalidSchedule p2_InvalidSchedule) (PXE.xB ln_InvalidSchedule q1_InvalidSchedule q2_InvalidSchedule q3_InvalidSchedule q4_InvalidSchedule) PXE.xS .none .none doc_InvalidSchedule pm_InvalidSchedule an_InvalidSchedule (.ref cda_InvalidSchedule) ct_InvalidSchedule cc_InvalidSchedule), osl_InvalidSchedule⟩) (c1_InvalidSchedule : PySem.W.codeIn K (.ref cda_InvalidSchedule) "StrideError.__init__" = true)
    (lc_InvalidSchedule : K.lookup cda_InvalidSchedule = some ⟨ccl_InvalidSchedule, cdd_InvalidSchedule, .fields vs_InvalidSchedule, ccs_InvalidSchedule⟩) (hv_InvalidSchedule : vs_InvalidSchedule[2]? = some (.str file_InvalidSchedule tf_InvalidSchedule)) (hf_InvalidSchedule : ((prog.main.file : Str) == file_InvalidSchedule) = true) (lcc_InvalidSchedule : K.lookup cc_InvalidSchedule = some ⟨cl_InvalidSchedule, cld_InvalidSchedule, .cell (some (.ref D_InvalidSchedule)), csl_InvalidSchedule⟩) (hln_InvalidSchedule : ln_InvalidSchedule = 5 ∨ ln_InvalidSchedule = 8)
    (kC_InvalidSchedule : PySem.W.keepIn K (.ref C_InvalidSchedule) = true) (eC_InvalidSchedule : PySem.W.subIn K (.ref C_InvalidSchedule) (.type "BaseException") = some true) (vC_InvalidSchedule : PySem.W.subIn K (.ref C_InvalidSchedule) (.type "ValueError") = some true) (yC_InvalidSchedule : PySem.W.typeIn K (.ref C_InvalidSchedule) = some (.type "type")) (hC_InvalidSchedule : PySem.W.hasDictIn K C_InvalidSchedule = true) (isC_InvalidSchedule : PySem.W.isClsIn K C_InvalidSchedule = true) (sC_InvalidSchedule : PySem.W.subIn K (.ref C_InvalidSchedule) (.ref C_InvalidSchedule) = some true)
    (ny_InvalidSchedule : PySem.W.nsIn K cStatics "thirdparty.any" = some none) (mD_InvalidSchedule : PySem.W.mroIn K C_InvalidSchedule (.ref D_InvalidSchedule) = some true) (isD_InvalidSchedule : PySem.W.isClsIn K D_InvalidSchedule = true) (zs_InvalidSchedule : PySem.W.nsIn K mainGlobals "super" = some none) (tp_InvalidSchedule : (prog.main.scope.names.lookup ("super" : Str)).isSome = false)
    {C_UnlikeLanes D_UnlikeLanes fI_UnlikeLanes cda_UnlikeLanes cc_UnlikeLanes N_UnlikeLanes : Addr} {n_UnlikeLanes q_UnlikeLanes file_UnlikeLanes : Str} {bs_UnlikeLanes : List Value} {sn_UnlikeLanes : List Str} {sub_UnlikeLanes : List Value} {ab_UnlikeLanes : Bool} {col_UnlikeLanes : Option Bool} {dd_UnlikeLanes od_UnlikeLanes an_UnlikeLanes cdd_UnlikeLanes cld_UnlikeLanes : Option Addr} {k0_UnlikeLanes k1_UnlikeLanes k2_UnlikeLanes k3_UnlikeLanes k5_UnlikeLanes : Option Value} {oc_UnlikeLanes doc_UnlikeLanes pm_UnlikeLanes ct_UnlikeLanes ccl_UnlikeLanes cl_UnlikeLanes : Value} {osl_UnlikeLanes ccs_UnlikeLanes csl_UnlikeLanes : Array (Option Value)} {ln_UnlikeLanes : Nat} {p1_UnlikeLanes p2_UnlikeLanes q1_UnlikeLanes q2_UnlikeLanes q3_UnlikeLanes q4_UnlikeLanes : Pos} {vs_UnlikeLanes : Array Value} {tf_UnlikeLanes : Tok}
    (aC_UnlikeLanes : PySem.W.nsIn K mainGlobals "UnlikeLanes" = some (some (.ref C_UnlikeLanes)))
    (xC_UnlikeLanes : K.lookup C_UnlikeLanes = some (excClassObj n_UnlikeLanes q_UnlikeLanes C_UnlikeLanes N_UnlikeLanes bs_UnlikeLanes (.ref D_UnlikeLanes :: PXE.veBm) true sn_UnlikeLanes sub_UnlikeLanes ab_UnlikeLanes col_UnlikeLanes dd_UnlikeLanes k0_UnlikeLanes k1_UnlikeLanes k2_UnlikeLanes k3_UnlikeLanes k5_UnlikeLanes "ValueError.__new__")) (ne_UnlikeLanes : (Value.ref C_UnlikeLanes != Value.ref D_UnlikeLanes) = true)
    (sa_UnlikeLanes : PySem.W.findIn K (.ref C_UnlikeLanes) "__setattr__" = some (some (.builtin "object.__setattr__"))) (ga_UnlikeLanes : PySem.W.findIn K (.ref C_UnlikeLanes) "__getattribute__" = some (some (.builtin "BaseException.__getattribute__"))) (gg_UnlikeLanes : PySem.W.findIn K (.ref C_UnlikeLanes) "__getattr__" = some none) (nv_UnlikeLanes : PySem.W.findIn K (.ref C_UnlikeLanes) "value" = some none)
    (iC_UnlikeLanes : PySem.W.findIn K (.ref C_UnlikeLanes) "__init__" = some (some (.ref fI_UnlikeLanes))) (tC_UnlikeLanes : PySem.W.typeIn K (.ref fI_UnlikeLanes) = some (.type "function"))
    (l1_UnlikeLanes : K.lookup fI_UnlikeLanes = some ⟨oc_UnlikeLanes, od_UnlikeLanes, .func (PySem.W.ksFn "__init__" "StrideError.__init__" (PXE.xA p1_UnlikeLanes p2_UnlikeLanes) (PXE.xB ln_UnlikeLanes q1_UnlikeLanes q2_UnlikeLanes q3_UnlikeLanes q4_UnlikeLanes) PXE.xS .none .none doc_UnlikeLanes pm_UnlikeLanes an_UnlikeLanes (.ref cda_UnlikeLanes) ct_UnlikeLanes cc_UnlikeLanes), osl_UnlikeLanes⟩) (c1_UnlikeLanes : PySem.W.codeIn K (.ref cda_UnlikeLanes) "StrideError.__init__" = true)
    (lc_UnlikeLanes : K.lookup cda_UnlikeLanes = some ⟨ccl_UnlikeLanes, cdd_UnlikeLanes, .fields vs_UnlikeLanes, ccs_UnlikeLanes⟩) (hv_UnlikeLanes : vs_UnlikeLanes[2]? = some (.str file_UnlikeLanes tf_UnlikeLanes)) (hf_UnlikeLanes : ((prog.main.file : Str) == file_UnlikeLanes) = true) (lcc_UnlikeLanes : K.lookup cc_UnlikeLanes = some ⟨cl_UnlikeLanes, cld_UnlikeLanes, .cell (some (.ref D_UnlikeLanes)), csl_UnlikeLanes⟩) (hln_UnlikeLanes : ln_UnlikeLanes = 5 ∨ ln_UnlikeLanes = 8)
    (kC_UnlikeLanes : PySem.W.keepIn K (.ref C_UnlikeLanes) = true) (eC_UnlikeLanes : PySem.W.subIn K (.ref C_UnlikeLanes) (.type "BaseException") = some true) (vC_UnlikeLanes : PySem.W.subIn K (.ref C_UnlikeLanes) (.type "ValueError") = some true) (yC_UnlikeLanes : PySem.W.typeIn K (.ref C_UnlikeLanes) = some (.type "type")) (hC_UnlikeLanes : PySem.W.hasDictIn K C_UnlikeLanes = true) (isC_UnlikeLanes : PySem.W.isClsIn K C_UnlikeLanes = true) (sC_UnlikeLanes : PySem.W.subIn K (.ref C_UnlikeLanes) (.ref C_UnlikeLanes) = some true)
    (ny_UnlikeLanes : PySem.W.nsIn K cStatics "thirdparty.any" = some none) (mD_UnlikeLanes : PySem.W.mroIn K C_UnlikeLanes (.ref D_UnlikeLanes) = some true) (isD_UnlikeLanes : PySem.W.isClsIn K D_UnlikeLanes = true) (zs_UnlikeLanes : PySem.W.nsIn K mainGlobals "super" = some none) (tp_UnlikeLanes : (prog.main.scope.names.lookup ("super" : Str)).isSome = false)
    {C_Racing D_Racing fI_Racing cda_Racing cc_Racing N_Racing : Addr} {n_Racing q_Racing file_Racing : Str} {bs_Racing : List Value} {sn_Racing : List Str} {sub_Racing : List Value} {ab_Racing : Bool} {col_Racing : Option Bool} {dd_Racing od_Racing an_Racing cdd_Racing cld_Racing : Option Addr} {k0_Racing k1_Racing k2_Racing k3_Racing k5_Racing : Option Value} {oc_Racing doc_Racing pm_Racing ct_Racing ccl_Racing cl_Racing : Value} {osl_Racing ccs_Racing csl_Racing : Array (Option Value)} {ln_Racing : Nat} {p1_Racing p2_Racing q1_Racing q2_Racing q3_Racing q4_Racing : Pos} {vs_Racing : Array Value} {tf_Racing : Tok}
    (aC_Racing : PySem.W.nsIn K mainGlobals "Racing" = some (some (.ref C_Racing)))
    (xC_Racing : K.lookup C_Racing = some (excClassObj n_Racing q_Racing C_Racing N_Racing bs_Racing (.ref D_Racing :: PXE.veBm) true sn_Racing sub_Racing ab_Racing col_Racing dd_Racing k0_Racing k1_Racing k2_Racing k3_Racing k5_Racing "ValueError.__new__")) (ne_Racing : (Value.ref C_Racing != Value.ref D_Racing) = true)
    (sa_Racing : PySem.W.findIn K (.ref C_Racing) "__setattr__" = some (some (.builtin "object.__setattr__"))) (ga_Racing : PySem.W.findIn K (.ref C_Racing) "__getattribute__" = some (some (.builtin "BaseException.__getattribute__"))) (gg_Racing : PySem.W.findIn K (.ref C_Racing) "__getattr__" = some none) (nv_Racing : PySem.W.findIn K (.ref C_Racing) "value" = some none)
    (iC_Racing : PySem.W.findIn K (.ref C_Racing) "__init__" = some (some (.ref fI_Racing))) (tC_Racing : PySem.W.typeIn K (.ref fI_Racing) = some (.type "function"))
    (l1_Racing : K.lookup fI_Racing = some ⟨oc_Racing, od_Racing, .func (PySem.W.ksFn "__init__" "StrideError.__init__" (PXE.xA p1_Racing p2_Racing) (PXE.xB ln_Racing q1_Racing q2_Racing q3_Racing q4_Racing) PXE.xS .none .none doc_Racing pm_Racing an_Racing (.ref cda_Racing) ct_Racing cc_Racing), osl_Racing⟩) (c1_Racing : PySem.W.codeIn K (.ref cda_Racing) "StrideError.__init__" = true)
    (lc_Racing : K.lookup cda_Racing = some ⟨ccl_Racing, cdd_Racing, .fields vs_Racing, ccs_Racing⟩) (hv_Racing : vs_Racing[2]? = some (.str file_Racing tf_Racing)) (hf_Racing : ((prog.main.file : Str) == file_Racing) = true) (lcc_Racing : K.lookup cc_Racing = some ⟨cl_Racing, cld_Racing, .cell (some (.ref D_Racing)), csl_Racing⟩) (hln_Racing : ln_Racing = 5 ∨ ln_Racing = 8)
    (kC_Racing : PySem.W.keepIn K (.ref C_Racing) = true) (eC_Racing : PySem.W.subIn K (.ref C_Racing) (.type "BaseException") = some true) (vC_Racing : PySem.W.subIn K (.ref C_Racing) (.type "ValueError") = some true) (yC_Racing : PySem.W.typeIn K (.ref C_Racing) = some (.type "type")) (hC_Racing : PySem.W.hasDictIn K C_Racing = true) (isC_Racing : PySem.W.isClsIn K C_Racing = true) (sC_Racing : PySem.W.subIn K (.ref C_Racing) (.ref C_Racing) = some true)
    (ny_Racing : PySem.W.nsIn K cStatics "thirdparty.any" = some none) (mD_Racing : PySem.W.mroIn K C_Racing (.ref D_Racing) = some true) (isD_Racing : PySem.W.isClsIn K D_Racing = true) (zs_Racing : PySem.W.nsIn K mainGlobals "super" = some none) (tp_Racing : (prog.main.scope.names.lookup ("super" : Str)).isSome = false)
    {C_NotPlain D_NotPlain fI_NotPlain cda_NotPlain cc_NotPlain N_NotPlain : Addr} {n_NotPlain q_NotPlain file_NotPlain : Str} {bs_NotPlain : List Value} {sn_NotPlain : List Str} {sub_NotPlain : List Value} {ab_NotPlain : Bool} {col_NotPlain : Option Bool} {dd_NotPlain od_NotPlain an_NotPlain cdd_NotPlain cld_NotPlain : Option Addr} {k0_NotPlain k1_NotPlain k2_NotPlain k3_NotPlain k5_NotPlain : Option Value} {oc_NotPlain doc_NotPlain pm_NotPlain ct_NotPlain ccl_NotPlain cl_NotPlain : Value} {osl_NotPlain ccs_NotPlain csl_NotPlain : Array (Option Value)} {ln_NotPlain : Nat} {p1_NotPlain p2_NotPlain q1_NotPlain q2_NotPlain q3_NotPlain q4_NotPlain : Pos} {vs_NotPlain : Array Value} {tf_NotPlain : Tok}
    (aC_NotPlain : PySem.W.nsIn K mainGlobals "NotPlain" = some (some (.ref C_NotPlain)))
    (xC_NotPlain : K.lookup C_NotPlain = some (excClassObj n_NotPlain q_NotPlain C_NotPlain N_NotPlain bs_NotPlain (.ref D_NotPlain :: PXE.veBm) true sn_NotPlain sub_NotPlain ab_NotPlain col_NotPlain dd_NotPlain k0_NotPlain k1_NotPlain k2_NotPlain k3_NotPlain k5_NotPlain "ValueError.__new__")) (ne_NotPlain : (Value.ref C_NotPlain != Value.ref D_NotPlain) = true)
    (sa_NotPlain : PySem.W.findIn K (.ref C_NotPlain) "__setattr__" = some (some (.builtin "object.__setattr__"))) (ga_NotPlain : PySem.W.findIn K (.ref C_NotPlain) "__getattribute__" = some (some (.builtin "BaseException.__getattribute__"))) (gg_NotPlain : PySem.W.findIn K (.ref C_NotPlain) "__getattr__" = some none) (nv_NotPlain : PySem.W.findIn K (.ref C_NotPlain) "value" = some none)
    (iC_NotPlain : PySem.W.findIn K (.ref C_NotPlain) "__init__" = some (some (.ref fI_NotPlain))) (tC_NotPlain : PySem.W.typeIn K (.ref fI_NotPlain) = some (.type "function"))
    (l1_NotPlain : K.lookup fI_NotPlain = some ⟨oc_NotPlain, od_NotPlain, .func (PySem.W.ksFn "__init__" "StrideError.__init__" (PXE.xA p1_NotPlain p2_NotPlain) (PXE.xB ln_NotPlain q1_NotPlain q2_NotPlain q3_NotPlain q4_NotPlain) PXE.xS .none .none doc_NotPlain pm_NotPlain an_NotPlain (.ref cda_NotPlain) ct_NotPlain cc_NotPlain), osl_NotPlain⟩) (c1_NotPlain : PySem.W.codeIn K (.ref cda_NotPlain) "StrideError.__init__" = true)
    (lc_NotPlain : K.lookup cda_NotPlain = some ⟨ccl_NotPlain, cdd_NotPlain, .fields vs_NotPlain, ccs_NotPlain⟩) (hv_NotPlain : vs_NotPlain[2]? = some (.str file_NotPlain tf_NotPlain)) (hf_NotPlain : ((prog.main.file : Str) == file_NotPlain) = true) (lcc_NotPlain : K.lookup cc_NotPlain = some ⟨cl_NotPlain, cld_NotPlain, .cell (some (.ref D_NotPlain)), csl_NotPlain⟩) (hln_NotPlain : ln_NotPlain = 5 ∨ ln_NotPlain = 8)
    (kC_NotPlain : PySem.W.keepIn K (.ref C_NotPlain) = true) (eC_NotPlain : PySem.W.subIn K (.ref C_NotPlain) (.type "BaseException") = some true) (vC_NotPlain : PySem.W.subIn K (.ref C_NotPlain) (.type "ValueError") = some true) (yC_NotPlain : PySem.W.typeIn K (.ref C_NotPlain) = some (.type "type")) (hC_NotPlain : PySem.W.hasDictIn K C_NotPlain = true) (isC_NotPlain : PySem.W.isClsIn K C_NotPlain = true) (sC_NotPlain : PySem.W.subIn K (.ref C_NotPlain) (.ref C_NotPlain) = some true)
    (ny_NotPlain : PySem.W.nsIn K cStatics "thirdparty.any" = some none) (mD_NotPlain : PySem.W.mroIn K C_NotPlain (.ref D_NotPlain) = some true) (isD_NotPlain : PySem.W.isClsIn K D_NotPlain = true) (zs_NotPlain : PySem.W.nsIn K mainGlobals "super" = some none) (tp_NotPlain : (prog.main.scope.names.lookup ("super" : Str)).isSome = false)
    {C_NothingToUndo D_NothingToUndo fI_NothingToUndo cda_NothingToUndo cc_NothingToUndo N_NothingToUndo : Addr} {n_NothingToUndo q_NothingToUndo file_NothingToUndo : Str} {bs_NothingToUndo : List Value} {sn_NothingToUndo : List Str} {sub_NothingToUndo : List Value} {ab_NothingToUndo : Bool} {col_NothingToUndo : Option Bool} {dd_NothingToUndo od_NothingToUndo an_NothingToUndo cdd_NothingToUndo cld_NothingToUndo : Option Addr} {k0_NothingToUndo k1_NothingToUndo k2_NothingToUndo k3_NothingToUndo k5_NothingToUndo : Option Value} {oc_NothingToUndo doc_NothingToUndo pm_NothingToUndo ct_NothingToUndo ccl_NothingToUndo cl_NothingToUndo : Value} {osl_NothingToUndo ccs_NothingToUndo csl_NothingToUndo : Array (Option Value)} {ln_NothingToUndo : Nat} {p1_NothingToUndo p2_NothingToUndo q1_NothingToUndo q2_NothingToUndo q3_NothingToUndo q4_NothingToUndo : Pos} {vs_NothingToUndo : Array Value} {tf_NothingToUndo : Tok}
    (aC_NothingToUndo : PySem.W.nsIn K mainGlobals "NothingToUndo" = some (some (.ref C_NothingToUndo)))
    (xC_NothingToUndo : K.lookup C_NothingToUndo = some (excClassObj n_NothingToUndo q_NothingToUndo C_NothingToUndo N_NothingToUndo bs_NothingToUndo (.ref D_NothingToUndo :: PXE.veBm) true sn_NothingToUndo sub_NothingToUndo ab_NothingToUndo col_NothingToUndo dd_NothingToUndo k0_NothingToUndo k1_NothingToUndo k2_NothingToUndo k3_NothingToUndo k5_NothingToUndo "ValueError.__new__")) (ne_NothingToUndo : (Value.ref C_NothingToUndo != Value.ref D_NothingToUndo) = true)
    (sa_NothingToUndo : PySem.W.findIn K (.ref C_NothingToUndo) "__setattr__" = some (some (.builtin "object.__setattr__"))) (ga_NothingToUndo : PySem.W.findIn K (.ref C_NothingToUndo) "__getattribute__" = some (some (.builtin "BaseException.__getattribute__"))) (gg_NothingToUndo : PySem.W.findIn K (.ref C_NothingToUndo) "__getattr__" = some none) (nv_NothingToUndo : PySem.W.findIn K (.ref C_NothingToUndo) "value" = some none)
    (iC_NothingToUndo : PySem.W.findIn K (.ref C_NothingToUndo) "__init__" = some (some (.ref fI_NothingToUndo))) (tC_NothingToUndo : PySem.W.typeIn K (.ref fI_NothingToUndo) = some (.type "function"))
    (l1_NothingToUndo : K.lookup fI_NothingToUndo = some ⟨oc_NothingToUndo, od_NothingToUndo, .func (PySem.W.ksFn "__init__" "StrideError.__init__" (PXE.xA p1_NothingToUndo p2_NothingToUndo) (PXE.xB ln_NothingToUndo q1_NothingToUndo q2_NothingToUndo q3_NothingToUndo q4_NothingToUndo) PXE.xS .none .none doc_NothingToUndo pm_NothingToUndo an_NothingToUndo (.ref cda_NothingToUndo) ct_NothingToUndo cc_NothingToUndo), osl_NothingToUndo⟩) (c1_NothingToUndo : PySem.W.codeIn K (.ref cda_NothingToUndo) "StrideError.__init__" = true)
    (lc_NothingToUndo : K.lookup cda_NothingToUndo = some ⟨ccl_NothingToUndo, cdd_NothingToUndo, .fields vs_NothingToUndo, ccs_NothingToUndo⟩) (hv_NothingToUndo : vs_NothingToUndo[2]? = some (.str file_NothingToUndo tf_NothingToUndo)) (hf_NothingToUndo : ((prog.main.file : Str) == file_NothingToUndo) = true) (lcc_NothingToUndo : K.lookup cc_NothingToUndo = some ⟨cl_NothingToUndo, cld_NothingToUndo, .cell (some (.ref D_NothingToUndo)), csl_NothingToUndo⟩) (hln_NothingToUndo : ln_NothingToUndo = 5 ∨ ln_NothingToUndo = 8)
    (kC_NothingToUndo : PySem.W.keepIn K (.ref C_NothingToUndo) = true) (eC_NothingToUndo : PySem.W.subIn K (.ref C_NothingToUndo) (.type "BaseException") = some true) (vC_NothingToUndo : PySem.W.subIn K (.ref C_NothingToUndo) (.type "ValueError") = some true) (yC_NothingToUndo : PySem.W.typeIn K (.ref C_NothingToUndo) = some (.type "type")) (hC_NothingToUndo : PySem.W.hasDictIn K C_NothingToUndo = true) (isC_NothingToUndo : PySem.W.isClsIn K C_NothingToUndo = true) (sC_NothingToUndo : PySem.W.subIn K (.ref C_NothingToUndo) (.ref C_NothingToUndo) = some true)
    (ny_NothingToUndo : PySem.W.nsIn K cStatics "thirdparty.any" = some none) (mD_NothingToUndo : PySem.W.mroIn K C_NothingToUndo (.ref D_NothingToUndo) = some true) (isD_NothingToUndo : PySem.W.isClsIn K D_NothingToUndo = true) (zs_NothingToUndo : PySem.W.nsIn K mainGlobals "super" = some none) (tp_NothingToUndo : (prog.main.scope.names.lookup ("super" : Str)).isSome = false)
    {C_Unreadable D_Unreadable fI_Unreadable cda_Unreadable cc_Unreadable N_Unreadable : Addr} {n_Unreadable q_Unreadable file_Unreadable : Str} {bs_Unreadable : List Value} {sn_Unreadable : List Str} {sub_Unreadable : List Value} {ab_Unreadable : Bool} {col_Unreadable : Option Bool} {dd_Unreadable od_Unreadable an_Unreadable cdd_Unreadable cld_Unreadable : Option Addr} {k0_Unreadable k1_Unreadable k2_Unreadable k3_Unreadable k5_Unreadable : Option Value} {oc_Unreadable doc_Unreadable pm_Unreadable ct_Unreadable ccl_Unreadable cl_Unreadable : Value} {osl_Unreadable ccs_Unreadable csl_Unreadable : Array (Option Value)} {ln_Unreadable : Nat} {p1_Unreadable p2_Unreadable q1_Unreadable q2_Unreadable q3_Unreadable q4_Unreadable : Pos} {vs_Unreadable : Array Value} {tf_Unreadable : Tok}
    (aC_Unreadable : PySem.W.nsIn K mainGlobals "Unreadable" = some (some (.ref C_Unreadable)))
    (xC_Unreadable : K.lookup C_Unreadable = some (excClassObj n_Unreadable q_Unreadable C_Unreadable N_Unreadable bs_Unreadable (.ref D_Unreadable :: PXE.veBm) true sn_Unreadable sub_Unreadable ab_Unreadable col_Unreadable dd_Unreadable k0_Unreadable k1_Unreadable k2_Unreadable k3_Unreadable k5_Unreadable "ValueError.__new__")) (ne_Unreadable : (Value.ref C_Unreadable != Value.ref D_Unreadable) = true)
    (sa_Unreadable : PySem.W.findIn K (.ref C_Unreadable) "__setattr__" = some (some (.builtin "object.__setattr__"))) (ga_Unreadable : PySem.W.findIn K (.ref C_Unreadable) "__getattribute__" = some (some (.builtin "BaseException.__getattribute__"))) (gg_Unreadable : PySem.W.findIn K (.ref C_Unreadable) "__getattr__" = some none) (nv_Unreadable : PySem.W.findIn K (.ref C_Unreadable) "value" = some none)
    (iC_Unreadable : PySem.W.findIn K (.ref C_Unreadable) "__init__" = some (some (.ref fI_Unreadable))) (tC_Unreadable : PySem.W.typeIn K (.ref fI_Unreadable) = some (.type "function"))
    (l1_Unreadable : K.lookup fI_Unreadable = some ⟨oc_Unreadable, od_Unreadable, .func (PySem.W.ksFn "__init__" "StrideError.__init__" (PXE.xA p1_Unreadable p2_Unreadable) (PXE.xB ln_Unreadable q1_Unreadable q2_Unreadable q3_Unreadable q4_Unreadable) PXE.xS .none .none doc_Unreadable pm_Unreadable an_Unreadable (.ref cda_Unreadable) ct_Unreadable cc_Unreadable), osl_Unreadable⟩) (c1_Unreadable : PySem.W.codeIn K (.ref cda_Unreadable) "StrideError.__init__" = true)
    (lc_Unreadable : K.lookup cda_Unreadable = some ⟨ccl_Unreadable, cdd_Unreadable, .fields vs_Unreadable, ccs_Unreadable⟩) (hv_Unreadable : vs_Unreadable[2]? = some (.str file_Unreadable tf_Unreadable)) (hf_Unreadable : ((prog.main.file : Str) == file_Unreadable) = true) (lcc_Unreadable : K.lookup cc_Unreadable = some ⟨cl_Unreadable, cld_Unreadable, .cell (some (.ref D_Unreadable)), csl_Unreadable⟩) (hln_Unreadable : ln_Unreadable = 5 ∨ ln_Unreadable = 8)
    (kC_Unreadable : PySem.W.keepIn K (.ref C_Unreadable) = true) (eC_Unreadable : PySem.W.subIn K (.ref C_Unreadable) (.type "BaseException") = some true) (vC_Unreadable : PySem.W.subIn K (.ref C_Unreadable) (.type "ValueError") = some true) (yC_Unreadable : PySem.W.typeIn K (.ref C_Unreadable) = some (.type "type")) (hC_Unreadable : PySem.W.hasDictIn K C_Unreadable = true) (isC_Unreadable : PySem.W.isClsIn K C_Unreadable = true) (sC_Unreadable : PySem.W.subIn K (.ref C_Unreadable) (.ref C_Unreadable) = some true)
    (ny_Unreadable : PySem.W.nsIn K cStatics "thirdparty.any" = some none) (mD_Unreadable : PySem.W.mroIn K C_Unreadable (.ref D_Unreadable) = some true) (isD_Unreadable : PySem.W.isClsIn K D_Unreadable = true) (zs_Unreadable : PySem.W.nsIn K mainGlobals "super" = some none) (tp_Unreadable : (prog.main.scope.names.lookup ("super" : Str)).isSome = false)
    {C_StrideError fI_StrideError cda_StrideError cc_StrideError N_StrideError : Addr} {n_StrideError q_StrideError file_StrideError : Str} {bs_StrideError : List Value} {sn_StrideError : List Str} {sub_StrideError : List Value} {ab_StrideError : Bool} {col_StrideError : Option Bool} {dd_StrideError od_StrideError an_StrideError cdd_StrideError cld_StrideError : Option Addr} {k0_StrideError k1_StrideError k2_StrideError k3_StrideError k5_StrideError : Option Value} {oc_StrideError doc_StrideError pm_StrideError ct_StrideError ccl_StrideError cl_StrideError : Value} {osl_StrideError ccs_StrideError csl_StrideError : Array (Option Value)} {ln_StrideError : Nat} {p1_StrideError p2_StrideError q1_StrideError q2_StrideError q3_StrideError q4_StrideError : Pos} {vs_StrideError : Array Value} {tf_StrideError : Tok}
    (aC_StrideError : PySem.W.nsIn K mainGlobals "StrideError" = some (some (.ref C_StrideError)))
    (xC_StrideError : K.lookup C_StrideError = some (excClassObj n_StrideError q_StrideError C_StrideError N_StrideError bs_StrideError PXE.veBm true sn_StrideError sub_StrideError ab_StrideError col_StrideError dd_StrideError k0_StrideError k1_StrideError k2_StrideError k3_StrideError k5_StrideError "ValueError.__new__"))
    (sa_StrideError : PySem.W.findIn K (.ref C_StrideError) "__setattr__" = some (some (.builtin "object.__setattr__"))) (ga_StrideError : PySem.W.findIn K (.ref C_StrideError) "__getattribute__" = some (some (.builtin "BaseException.__getattribute__"))) (gg_StrideError : PySem.W.findIn K (.ref C_StrideError) "__getattr__" = some none) (nv_StrideError : PySem.W.findIn K (.ref C_StrideError) "value" = some none)
    (iC_StrideError : PySem.W.findIn K (.ref C_StrideError) "__init__" = some (some (.ref fI_StrideError))) (tC_StrideError : PySem.W.typeIn K (.ref fI_StrideError) = some (.type "function"))
    (l1_StrideError : K.lookup fI_StrideError = some ⟨oc_StrideError, od_StrideError, .func (PySem.W.ksFn "__init__" "StrideError.__init__" (PXE.xA p1_StrideError p2_StrideError) (PXE.xB ln_StrideError q1_StrideError q2_StrideError q3_StrideError q4_StrideError) PXE.xS .none .none doc_StrideError pm_StrideError an_StrideError (.ref cda_StrideError) ct_StrideError cc_StrideError), osl_StrideError⟩) (c1_StrideError : PySem.W.codeIn K (.ref cda_StrideError) "StrideError.__init__" = true)
    (lc_StrideError : K.lookup cda_StrideError = some ⟨ccl_StrideError, cdd_StrideError, .fields vs_StrideError, ccs_StrideError⟩) (hv_StrideError : vs_StrideError[2]? = some (.str file_StrideError tf_StrideError)) (hf_StrideError : ((prog.main.file : Str) == file_StrideError) = true) (lcc_StrideError : K.lookup cc_StrideError = some ⟨cl_StrideError, cld_StrideError, .cell (some (.ref C_StrideError)), csl_StrideError⟩) (hln_StrideError : ln_StrideError = 5 ∨ ln_StrideError = 8)
    (kC_StrideError : PySem.W.keepIn K (.ref C_StrideError) = true) (eC_StrideError : PySem.W.subIn K (.ref C_StrideError) (.type "BaseException") = some true) (vC_StrideError : PySem.W.subIn K (.ref C_StrideError) (.type "ValueError") = some true) (yC_StrideError : PySem.W.typeIn K (.ref C_StrideError) = some (.type "type")) (hC_StrideError : PySem.W.hasDictIn K C_StrideError = true) (isC_StrideError : PySem.W.isClsIn K C_StrideError = true) (sC_StrideError : PySem.W.subIn K (.ref C_StrideError) (.ref C_StrideError) = some true)
    (ny_StrideError : PySem.W.nsIn K cStatics "thirdparty.any" = some none) (mD_StrideError : PySem.W.mroIn K C_StrideError (.ref C_StrideError) = some true) (zs_StrideError : PySem.W.nsIn K mainGlobals "super" = some none) (tp_StrideError : (prog.main.scope.names.lookup ("super" : Str)).isSome = false)
    (xkb : PL.errKB K (PXE.clOf K) = true) : Txt prog w K mg (PL.clT [] (PXE.clOf K)) :=
  ⟨f0, _, fun_mk (st := s__law_bag) l0 c0 k0, (fun_mk (st := s__law_bag) l0 c0 k0).binds (ps := ["script"]) (fun _ _ _ _ _ _ us hl => match us, hl with | [_], _ => rfl), PySem.W.mg_of X G a0,
    f1, _, fun_mk (st := s__law_draw) l1 c1 k1, (fun_mk (st := s__law_draw) l1 c1 k1).binds (ps := ["bag", "many"]) (fun _ _ _ _ _ _ us hl => match us, hl with | [_, _], _ => rfl), PySem.W.mg_of X G a1,
    f2, _, fun_mk (st := s__law_flags) l2 c2 k2, (fun_mk (st := s__law_flags) l2 c2 k2).binds (ps := ["e"]) (fun _ _ _ _ _ _ us hl => match us, hl with | [_], _ => rfl), PySem.W.mg_of X G a2,
    f3, _, fun_mk (st := s__law_made) l3 c3 k3, (fun_mk (st := s__law_made) l3 c3 k3).binds (ps := ["thing"]) (fun _ _ _ _ _ _ us hl => match us, hl with | [_], _ => rfl), PySem.W.mg_of X G a3,
    f4, _, fun_mk (st := s_law) l4 c4 k4, (fun_mk (st := s_law) l4 c4 k4).binds (ps := ["script"]) (fun _ _ _ _ _ _ us hl => match us, hl with | [_], _ => rfl), PySem.W.mg_of X G a4,
    PySem.W.mg_none_of X G z_ValueError,
    PySem.W.mg_none_of X G z_abs,
    PySem.W.mg_none_of X G z_isinstance,
    PySem.W.mg_none_of X G z_len,
    PySem.W.mg_none_of X G z_min,
    PySem.W.mg_none_of X G z_range,
    PySem.W.mg_none_of X G z_repr,
    _, _, (by rw [PL.clT_at aC_InvalidGuard]; exact PXE.err_mk X G aC_InvalidGuard xC_InvalidGuard ne_InvalidGuard sa_InvalidGuard ga_InvalidGuard gg_InvalidGuard nv_InvalidGuard iC_InvalidGuard tC_InvalidGuard l1_InvalidGuard c1_InvalidGuard lc_InvalidGuard hv_InvalidGuard hf_InvalidGuard lcc_InvalidGuard hln_InvalidGuard kC_InvalidGuard eC_InvalidGuard vC_InvalidGuard yC_InvalidGuard hC_InvalidGuard isC_InvalidGuard sC_InvalidGuard ny_InvalidGuard mD_InvalidGuard isD_InvalidGuard zs_InvalidGuard tp_InvalidGuard),
    _, _, (by rw [PL.clT_at aC_InvalidLanes]; exact PXE.err_mk X G aC_InvalidLanes xC_InvalidLanes ne_InvalidLanes sa_InvalidLanes ga_InvalidLanes gg_InvalidLanes nv_InvalidLanes iC_InvalidLanes tC_InvalidLanes l1_InvalidLanes c1_InvalidLanes lc_InvalidLanes hv_InvalidLanes hf_InvalidLanes lcc_InvalidLanes hln_InvalidLanes kC_InvalidLanes eC_InvalidLanes vC_InvalidLanes yC_InvalidLanes hC_InvalidLanes isC_InvalidLanes sC_InvalidLanes ny_InvalidLanes mD_InvalidLanes isD_InvalidLanes zs_InvalidLanes tp_InvalidLanes),
    _, _, (by rw [PL.clT_at aC_InvalidStatement]; exact PXE.err_mk X G aC_InvalidStatement xC_InvalidStatement ne_InvalidStatement sa_InvalidStatement ga_InvalidStatement gg_InvalidStatement nv_InvalidStatement iC_InvalidStatement tC_InvalidStatement l1_InvalidStatement c1_InvalidStatement lc_InvalidStatement hv_InvalidStatement hf_InvalidStatement lcc_InvalidStatement hln_InvalidStatement kC_InvalidStatement eC_InvalidStatement vC_InvalidStatement yC_InvalidStatement hC_InvalidStatement isC_InvalidStatement sC_InvalidStatement ny_InvalidStatement mD_InvalidStatement isD_InvalidStatement zs_InvalidStatement tp_InvalidStatement),
    _, _, (by rw [PL.clT_at aC_InvalidBarrier]; exact PXE.err_mk X G aC_InvalidBarrier xC_InvalidBarrier ne_InvalidBarrier sa_InvalidBarrier ga_InvalidBarrier gg_InvalidBarrier nv_InvalidBarrier iC_InvalidBarrier tC_InvalidBarrier l1_InvalidBarrier c1_InvalidBarrier lc_InvalidBarrier hv_InvalidBarrier hf_InvalidBarrier lcc_InvalidBarrier hln_InvalidBarrier kC_InvalidBarrier eC_InvalidBarrier vC_InvalidBarrier yC_InvalidBarrier hC_InvalidBarrier isC_InvalidBarrier sC_InvalidBarrier ny_InvalidBarrier mD_InvalidBarrier isD_InvalidBarrier zs_InvalidBarrier tp_InvalidBarrier),
    _, _, (by rw [PL.clT_at aC_InvalidAccess]; exact PXE.err_mk X G aC_InvalidAccess xC_InvalidAccess ne_InvalidAccess sa_InvalidAccess ga_InvalidAccess gg_InvalidAccess nv_InvalidAccess iC_InvalidAccess tC_InvalidAccess l1_InvalidAccess c1_InvalidAccess lc_InvalidAccess hv_InvalidAccess hf_InvalidAccess lcc_InvalidAccess hln_InvalidAccess kC_InvalidAccess eC_InvalidAccess vC_InvalidAccess yC_InvalidAccess hC_InvalidAccess isC_InvalidAccess sC_InvalidAccess ny_InvalidAccess mD_InvalidAccess isD_InvalidAccess zs_InvalidAccess tp_InvalidAccess),
    _, _, (by rw [PL.clT_at aC_InvalidNumber]; exact PXE.err_mk X G aC_InvalidNumber xC_InvalidNumber ne_InvalidNumber sa_InvalidNumber ga_InvalidNumber gg_InvalidNumber nv_InvalidNumber iC_InvalidNumber tC_InvalidNumber l1_InvalidNumber c1_InvalidNumber lc_InvalidNumber hv_InvalidNumber hf_InvalidNumber lcc_InvalidNumber hln_InvalidNumber kC_InvalidNumber eC_InvalidNumber vC_InvalidNumber yC_InvalidNumber hC_InvalidNumber isC_InvalidNumber sC_InvalidNumber ny_InvalidNumber mD_InvalidNumber isD_InvalidNumber zs_InvalidNumber tp_InvalidNumber),
    _, _, (by rw [PL.clT_at aC_InvalidArray]; exact PXE.err_mk X G aC_InvalidArray xC_InvalidArray ne_InvalidArray sa_InvalidArray ga_InvalidArray gg_InvalidArray nv_InvalidArray iC_InvalidArray tC_InvalidArray l1_InvalidArray c1_InvalidArray lc_InvalidArray hv_InvalidArray hf_InvalidArray lcc_InvalidArray hln_InvalidArray kC_InvalidArray eC_InvalidArray vC_InvalidArray yC_InvalidArray hC_InvalidArray isC_InvalidArray sC_InvalidArray ny_InvalidArray mD_InvalidArray isD_InvalidArray zs_InvalidArray tp_InvalidArray),
    _, _, (by rw [PL.clT_at aC_InvalidSchedule]; exact PXE.err_mk X G aC_InvalidSchedule xC_InvalidSchedule ne_InvalidSchedule sa_InvalidSchedule ga_InvalidSchedule gg_InvalidSchedule nv_InvalidSchedule iC_InvalidSchedule tC_InvalidSchedule l1_InvalidSchedule c1_InvalidSchedule lc_InvalidSchedule hv_InvalidSchedule hf_InvalidSchedule lcc_InvalidSchedule hln_InvalidSchedule kC_InvalidSchedule eC_InvalidSchedule vC_InvalidSchedule yC_InvalidSchedule hC_InvalidSchedule isC_InvalidSchedule sC_InvalidSchedule ny_InvalidSchedule mD_InvalidSchedule isD_InvalidSchedule zs_InvalidSchedule tp_InvalidSchedule),
    _, _, (by rw [PL.clT_at aC_UnlikeLanes]; exact PXE.err_mk X G aC_UnlikeLanes xC_UnlikeLanes ne_UnlikeLanes sa_UnlikeLanes ga_UnlikeLanes gg_UnlikeLanes nv_UnlikeLanes iC_UnlikeLanes tC_UnlikeLanes l1_UnlikeLanes c1_UnlikeLanes lc_UnlikeLanes hv_UnlikeLanes hf_UnlikeLanes lcc_UnlikeLanes hln_UnlikeLanes kC_UnlikeLanes eC_UnlikeLanes vC_UnlikeLanes yC_UnlikeLanes hC_UnlikeLanes isC_UnlikeLanes sC_UnlikeLanes ny_UnlikeLanes mD_UnlikeLanes isD_UnlikeLanes zs_UnlikeLanes tp_UnlikeLanes),
    _, _, (by rw [PL.clT_at aC_Racing]; exact PXE.err_mk X G aC_Racing xC_Racing ne_Racing sa_Racing ga_Racing gg_Racing nv_Racing iC_Racing tC_Racing l1_Racing c1_Racing lc_Racing hv_Racing hf_Racing lcc_Racing hln_Racing kC_Racing eC_Racing vC_Racing yC_Racing hC_Racing isC_Racing sC_Racing ny_Racing mD_Racing isD_Racing zs_Racing tp_Racing),
    _, _, (by rw [PL.clT_at aC_NotPlain]; exact PXE.err_mk X G aC_NotPlain xC_NotPlain ne_NotPlain sa_NotPlain ga_NotPlain gg_NotPlain nv_NotPlain iC_NotPlain tC_NotPlain l1_NotPlain c1_NotPlain lc_NotPlain hv_NotPlain hf_NotPlain lcc_NotPlain hln_NotPlain kC_NotPlain eC_NotPlain vC_NotPlain yC_NotPlain hC_NotPlain isC_NotPlain sC_NotPlain ny_NotPlain mD_NotPlain isD_NotPlain zs_NotPlain tp_NotPlain),
    _, _, (by rw [PL.clT_at aC_NothingToUndo]; exact PXE.err_mk X G aC_NothingToUndo xC_NothingToUndo ne_NothingToUndo sa_NothingToUndo ga_NothingToUndo gg_NothingToUndo nv_NothingToUndo iC_NothingToUndo tC_NothingToUndo l1_NothingToUndo c1_NothingToUndo lc_NothingToUndo hv_NothingToUndo hf_NothingToUndo lcc_NothingToUndo hln_NothingToUndo kC_NothingToUndo eC_NothingToUndo vC_NothingToUndo yC_NothingToUndo hC_NothingToUndo isC_NothingToUndo sC_NothingToUndo ny_NothingToUndo mD_NothingToUndo isD_NothingToUndo zs_NothingToUndo tp_NothingToUndo),
    _, _, (by rw [PL.clT_at aC_Unreadable]; exact PXE.err_mk X G aC_Unreadable xC_Unreadable ne_Unreadable sa_Unreadable ga_Unreadable gg_Unreadable nv_Unreadable iC_Unreadable tC_Unreadable l1_Unreadable c1_Unreadable lc_Unreadable hv_Unreadable hf_Unreadable lcc_Unreadable hln_Unreadable kC_Unreadable eC_Unreadable vC_Unreadable yC_Unreadable hC_Unreadable isC_Unreadable sC_Unreadable ny_Unreadable mD_Unreadable isD_Unreadable zs_Unreadable tp_Unreadable),
    _, _, (by rw [PL.clT_at aC_StrideError]; exact PXE.err_mk0 X G aC_StrideError xC_StrideError sa_StrideError ga_StrideError gg_StrideError nv_StrideError iC_StrideError tC_StrideError l1_StrideError c1_StrideError lc_StrideError hv_StrideError hf_StrideError lcc_StrideError hln_StrideError kC_StrideError eC_StrideError vC_StrideError yC_StrideError hC_StrideError isC_StrideError sC_StrideError ny_StrideError mD_StrideError zs_StrideError tp_StrideError),
    (by rw [PL.clT_at aC_InvalidGuard]; exact PySem.W.mg_of X G aC_InvalidGuard),
    (by rw [PL.clT_at aC_InvalidLanes]; exact PySem.W.mg_of X G aC_InvalidLanes),
    (by rw [PL.clT_at aC_InvalidStatement]; exact PySem.W.mg_of X G aC_InvalidStatement),
    (by rw [PL.clT_at aC_InvalidBarrier]; exact PySem.W.mg_of X G aC_InvalidBarrier),
    (by rw [PL.clT_at aC_InvalidAccess]; exact PySem.W.mg_of X G aC_InvalidAccess),
    (by rw [PL.clT_at aC_InvalidNumber]; exact PySem.W.mg_of X G aC_InvalidNumber),
    (by rw [PL.clT_at aC_InvalidArray]; exact PySem.W.mg_of X G aC_InvalidArray),
    (by rw [PL.clT_at aC_InvalidSchedule]; exact PySem.W.mg_of X G aC_InvalidSchedule),
    (by rw [PL.clT_at aC_UnlikeLanes]; exact PySem.W.mg_of X G aC_UnlikeLanes),
    (by rw [PL.clT_at aC_Racing]; exact PySem.W.mg_of X G aC_Racing),
    (by rw [PL.clT_at aC_NotPlain]; exact PySem.W.mg_of X G aC_NotPlain),
    (by rw [PL.clT_at aC_NothingToUndo]; exact PySem.W.mg_of X G aC_NothingToUndo),
    (by rw [PL.clT_at aC_Unreadable]; exact PySem.W.mg_of X G aC_Unreadable),
    (by rw [PL.clT_at aC_StrideError]; exact PySem.W.mg_of X G aC_StrideError),
    PL.errK_clT xkb⟩
theorem all_mk {l : PySem.W.OpenLaw} {w : World} {K : PySem.W.Frag} {h : Heap} {mg : Str → Option Value} {fa : Addr} (X : K.In h) (G : h.Ns mainGlobals mg) (hfa : mg "law" = some (.ref fa))
    {f0 : Addr} {oc0 kV0 dc0 pm0 cd0 ct0 : Value} {od0 an0 : Option Addr} {sl0 : Array (Option Value)} (a0 : PySem.W.nsIn K mainGlobals "_law_bag" = some (some (.ref f0))) (l0 : K.lookup f0 = some ⟨oc0, od0, .func (PySem.W.fnOf "_law_bag" "_law_bag" (defArgs s__law_bag) (defBody s__law_bag) (defScope s__law_bag) .none kV0 dc0 pm0 an0 cd0 ct0), sl0⟩) (c0 : PySem.W.codeIn K cd0 "_law_bag" = true) (k0 : PySem.W.keepIn K (.ref f0) = true)
    {f1 : Addr} {oc1 kV1 dc1 pm1 cd1 ct1 : Value} {od1 an1 : Option Addr} {sl1 : Array (Option Value)} (a1 : PySem.W.nsIn K mainGlobals "_law_draw" = some (some (.ref f1))) (l1 : K.lookup f1 = some ⟨oc1, od1, .func (PySem.W.fnOf "_law_draw" "_law_draw" (defArgs s__law_draw) (defBody s__law_draw) (defScope s__law_draw) .none kV1 dc1 pm1 an1 cd1 ct1), sl1⟩) (c1 : PySem.W.codeIn K cd1 "_law_draw" = true) (k1 : PySem.W.keepIn K (.ref f1) = true)
    {f2 : Addr} {oc2 kV2 dc2 pm2 cd2 ct2 : Value} {od2 an2 : Option Addr} {sl2 : Array (Option Value)} (a2 : PySem.W.nsIn K mainGlobals "_law_flags" = some (some (.ref f2))) (l2 : K.lookup f2 = some ⟨oc2, od2, .func (PySem.W.fnOf "_law_flags" "_law_flags" (defArgs s__law_flags) (defBody s__law_flags) (defScope s__law_flags) .none kV2 dc2 pm2 an2 cd2 ct2), sl2⟩) (c2 : PySem.W.codeIn K cd2 "_law_flags" = true) (k2 : PySem.W.keepIn K (.ref f2) = true)
    {f3 : Addr} {oc3 kV3 dc3 pm3 cd3 ct3 : Value} {od3 an3 : Option Addr} {sl3 : Array (Option Value)} (a3 : PySem.W.nsIn K mainGlobals "_law_made" = some (some (.ref f3))) (l3 : K.lookup f3 = some ⟨oc3, od3, .func (PySem.W.fnOf "_law_made" "_law_made" (defArgs s__law_made) (defBody s__law_made) (defScope s__law_made) .none kV3 dc3 pm3 an3 cd3 ct3), sl3⟩) (c3 : PySem.W.codeIn K cd3 "_law_made" = true) (k3 : PySem.W.keepIn K (.ref f3) = true)
    {f4 : Addr} {oc4 kV4 dc4 pm4 cd4 ct4 : Value} {od4 an4 : Option Addr} {sl4 : Array (Option Value)} (a4 : PySem.W.nsIn K mainGlobals "law" = some (some (.ref f4))) (l4 : K.lookup f4 = some ⟨oc4, od4, .func (PySem.W.fnOf "law" "law" (defArgs s_law) (defBody s_law) (defScope s_law) .none kV4 dc4 pm4 an4 cd4 ct4), sl4⟩) (c4 : PySem.W.codeIn K cd4 "law" = true) (k4 : PySem.W.keepIn K (.ref f4) = true)
    (z_ValueError : PySem.W.nsIn K mainGlobals "ValueError" = some none)
    (z_abs : PySem.W.nsIn K mainGlobals "abs" = some none)
    (z_isinstance : PySem.W.nsIn K mainGlobals "isinstance" = some none)
    (z_len : PySem.W.nsIn K mainGlobals "len" = some none)
    (z_min : PySem.W.nsIn K mainGlobals "min" = some none)
    (z_range : PySem.W.nsIn K mainGlobals "range" = some none)
    (z_repr : PySem.W.nsIn K mainGlobals "repr" = some none)
    {C_InvalidGuard D_InvalidGuard fI_InvalidGuard cda_InvalidGuard cc_InvalidGuard N_InvalidGuard : Addr} {n_InvalidGuard q_InvalidGuard file_InvalidGuard : Str} {bs_InvalidGuard : List Value} {sn_InvalidGuard : List Str} {sub_InvalidGuard : List Value} {ab_InvalidGuard : Bool} {col_InvalidGuard : Option Bool} {dd_InvalidGuard od_InvalidGuard an_InvalidGuard cdd_InvalidGuard cld_InvalidGuard : Option Addr} {k0_InvalidGuard k1_InvalidGuard k2_InvalidGuard k3_InvalidGuard k5_InvalidGuard : Option Value} {oc_InvalidGuard doc_InvalidGuard pm_InvalidGuard ct_InvalidGuard ccl_InvalidGuard cl_InvalidGuard : Value} {osl_InvalidGuard ccs_InvalidGuard csl_InvalidGuard : Array (Option Value)} {ln_InvalidGuard : Nat} {p1_InvalidGuard p2_InvalidGuard q1_InvalidGuard q2_InvalidGuard q3_InvalidGuard q4_InvalidGuard : Pos} {vs_InvalidGuard : Array Value} {tf_InvalidGuard : Tok}
    (aC_InvalidGuard : PySem.W.nsIn K mainGlobals "InvalidGuard" = some (some (.ref C_InvalidGuard)))
    (xC_InvalidGuard : K.lookup C_InvalidGuard = some (excClassObj n_InvalidGuard q_InvalidGuard C_InvalidGuard N_InvalidGuard bs_InvalidGuard (.ref D_InvalidGuard :: PXE.veBm) true sn_InvalidGuard sub_InvalidGuard ab_InvalidGuard col_InvalidGuard dd_InvalidGuard k0_InvalidGuard k1_InvalidGuard k2_InvalidGuard k3_InvalidGuard k5_InvalidGuard "ValueError.__new__")) (ne_InvalidGuard : (Value.ref C_InvalidGuard != Value.ref D_InvalidGuard) = true)
    (sa_InvalidGuard : PySem.W.findIn K (.ref C_InvalidGuard) "__setattr__" = some (some (.builtin "object.__setattr__"))) (ga_InvalidGuard : PySem.W.findIn K (.ref C_InvalidGuard) "__getattribute__" = some (some (.builtin "BaseException.__getattribute__"))) (gg_InvalidGuard : PySem.W.findIn K (.ref C_InvalidGuard) "__getattr__" = some none) (nv_InvalidGuard : PySem.W.findIn K (.ref C_InvalidGuard) "value" = some none)
    (iC_InvalidGuard : PySem.W.findIn K (.ref C_InvalidGuard) "__init__" = some (some (.ref fI_InvalidGuard))) (tC_InvalidGuard : PySem.W.typeIn K (.ref fI_InvalidGuard) = some (.type "function"))
    (l1_InvalidGuard : K.lookup fI_InvalidGuard = some ⟨oc_InvalidGuard, od_InvalidGuard, .func (PySem.W.ksFn "__init__" "StrideError.__init__" (PXE.xA p1_InvalidGuard p2_InvalidGuard) (PXE.xB ln_InvalidGuard q1_InvalidGuard q2_InvalidGuard q3_InvalidGuard q4_InvalidGuard) PXE.xS .none .none doc_InvalidGuard pm_InvalidGuard an_InvalidGuard (.ref cda_InvalidGuard) ct_InvalidGuard cc_InvalidGuard), osl_InvalidGuard⟩) (c1_InvalidGuard : PySem.W.codeIn K (.ref cda_InvalidGuard) "StrideError.__init__" = true)
    (lc_InvalidGuard : K.lookup cda_InvalidGuard = some ⟨ccl_InvalidGuard, cdd_InvalidGuard, .fields vs_InvalidGuard, ccs_InvalidGuard⟩) (hv_InvalidGuard : vs_InvalidGuard[2]? = some (.str file_InvalidGuard tf_InvalidGuard)) (hf_InvalidGuard : ((l.prog.main.file : Str) == file_InvalidGuard) = true) (lcc_InvalidGuard : K.lookup cc_InvalidGuard = some ⟨cl_InvalidGuard, cld_InvalidGuard, .cell (some (.ref D_InvalidGuard)), csl_InvalidGuard⟩) (hln_InvalidGuard : ln_InvalidGuard = 5 ∨ ln_InvalidGuard = 8)
    (kC_InvalidGuard : PySem.W.keepIn K (.ref C_InvalidGuard) = true) (eC_InvalidGuard : PySem.W.subIn K (.ref C_InvalidGuard) (.type "BaseException") = some true) (vC_InvalidGuard : PySem.W.subIn K (.ref C_InvalidGuard) (.type "ValueError") = some true) (yC_InvalidGuard : PySem.W.typeIn K (.ref C_InvalidGuard) = some (.type "type")) (hC_InvalidGuard : PySem.W.hasDictIn K C_InvalidGuard = true) (isC_InvalidGuard : PySem.W.isClsIn K C_InvalidGuard = true) (sC_InvalidGuard : PySem.W.subIn K (.ref C_InvalidGuard) (.ref C_InvalidGuard) = some true)
    (ny_InvalidGuard : PySem.W.nsIn K cStatics "thirdparty.any" = some none) (mD_InvalidGuard : PySem.W.mroIn K C_InvalidGuard (.ref D_InvalidGuard) = some true) (isD_InvalidGuard : PySem.W.isClsIn K D_InvalidGuard = true) (zs_InvalidGuard : PySem.W.nsIn K mainGlobals "super" = some none) (tp_InvalidGuard : (l.prog.main.scope.names.lookup ("super" : Str)).isSome = false)
    {C_InvalidLanes D_InvalidLanes fI_InvalidLanes cda_InvalidLanes cc_InvalidLanes N_InvalidLanes : Addr} {n_InvalidLanes q_InvalidLanes file_InvalidLanes : Str} {bs_InvalidLanes : List Value} {sn_InvalidLanes : List Str} {sub_InvalidLanes : List Value} {ab_InvalidLanes : Bool} {col_InvalidLanes : Option Bool} {dd_InvalidLanes od_InvalidLanes an_InvalidLanes cdd_InvalidLanes cld_InvalidLanes : Option Addr} {k0_InvalidLanes k1_InvalidLanes k2_InvalidLanes k3_InvalidLanes k5_InvalidLanes : Option Value} {oc_InvalidLanes doc_InvalidLanes pm_InvalidLanes ct_InvalidLanes ccl_InvalidLanes cl_InvalidLanes : Value} {osl_InvalidLanes ccs_InvalidLanes csl_InvalidLanes : Array (Option Value)} {ln_InvalidLanes : Nat} {p1_InvalidLanes p2_InvalidLanes q1_InvalidLanes q2_InvalidLanes q3_InvalidLanes q4_InvalidLanes : Pos} {vs_InvalidLanes : Array Value} {tf_InvalidLanes : Tok}
    (aC_InvalidLanes : PySem.W.nsIn K mainGlobals "InvalidLanes" = some (some (.ref C_InvalidLanes)))
    (xC_InvalidLanes : K.lookup C_InvalidLanes = some (excClassObj n_InvalidLanes q_InvalidLanes C_InvalidLanes N_InvalidLanes bs_InvalidLanes (.ref D_InvalidLanes :: PXE.veBm) true sn_InvalidLanes sub_InvalidLanes ab_InvalidLanes col_InvalidLanes dd_InvalidLanes k0_InvalidLanes k1_InvalidLanes k2_InvalidLanes k3_InvalidLanes k5_InvalidLanes "ValueError.__new__")) (ne_InvalidLanes : (Value.ref C_InvalidLanes != Value.ref D_InvalidLanes) = true)
    (sa_InvalidLanes : PySem.W.findIn K (.ref C_InvalidLanes) "__setattr__" = some (some (.builtin "object.__setattr__"))) (ga_InvalidLanes : PySem.W.findIn K (.ref C_InvalidLanes) "__getattribute__" = some (some (.builtin "BaseException.__getattribute__"))) (gg_InvalidLanes : PySem.W.findIn K (.ref C_InvalidLanes) "__getattr__" = some none) (nv_InvalidLanes : PySem.W.findIn K (.ref C_InvalidLanes) "value" = some none)
    (iC_InvalidLanes : PySem.W.findIn K (.ref C_InvalidLanes) "__init__" = some (some (.ref fI_InvalidLanes))) (tC_InvalidLanes : PySem.W.typeIn K (.ref fI_InvalidLanes) = some (.type "function"))
    (l1_InvalidLanes : K.lookup fI_InvalidLanes = some ⟨oc_InvalidLanes, od_InvalidLanes, .func (PySem.W.ksFn "__init__" "StrideError.__init__" (PXE.xA p1_InvalidLanes p2_InvalidLanes) (PXE.xB ln_InvalidLanes q1_InvalidLanes q2_InvalidLanes q3_InvalidLanes q4_InvalidLanes) PXE.xS .none .none doc_InvalidLanes pm_InvalidLanes an_InvalidLanes (.ref cda_InvalidLanes) ct_InvalidLanes cc_InvalidLanes), osl_InvalidLanes⟩) (c1_InvalidLanes : PySem.W.codeIn K (.ref cda_InvalidLanes) "StrideError.__init__" = true)
    (lc_InvalidLanes : K.lookup cda_InvalidLanes = some ⟨ccl_InvalidLanes, cdd_InvalidLanes, .fields vs_InvalidLanes, ccs_InvalidLanes⟩) (hv_InvalidLanes : vs_InvalidLanes[2]? = some (.str file_InvalidLanes tf_InvalidLanes)) (hf_InvalidLanes : ((l.prog.main.file : Str) == file_InvalidLanes) = true) (lcc_InvalidLanes : K.lookup cc_InvalidLanes = some ⟨cl_InvalidLanes, cld_InvalidLanes, .cell (some (.ref D_InvalidLanes)), csl_InvalidLanes⟩) (hln_InvalidLanes : ln_InvalidLanes = 5 ∨ ln_InvalidLanes = 8)
    (kC_InvalidLanes : PySem.W.keepIn K (.ref C_InvalidLanes) = true) (eC_InvalidLanes : PySem.W.subIn K (.ref C_InvalidLanes) (.type "BaseException") = some true) (vC_InvalidLanes : PySem.W.subIn K (.ref C_InvalidLanes) (.type "ValueError") = some true) (yC_InvalidLanes : PySem.W.typeIn K (.ref C_InvalidLanes) = some (.type "type")) (hC_InvalidLanes : PySem.W.hasDictIn K C_InvalidLanes = true) (isC_InvalidLanes : PySem.W.isClsIn K C_InvalidLanes = true) (sC_InvalidLanes : PySem.W.subIn K (.ref C_InvalidLanes) (.ref C_InvalidLanes) = some true)
    (ny_InvalidLanes : PySem.W.nsIn K cStatics "thirdparty.any" = some none) (mD_InvalidLanes : PySem.W.mroIn K C_InvalidLanes (.ref D_InvalidLanes) = some true) (isD_InvalidLanes : PySem.W.isClsIn K D_InvalidLanes = true) (zs_InvalidLanes : PySem.W.nsIn K mainGlobals "super" = some none) (tp_InvalidLanes : (l.prog.main.scope.names.lookup ("super" : Str)).isSome = false)
    {C_InvalidStatement D_InvalidStatement fI_InvalidStatement cda_InvalidStatement cc_InvalidStatement N_InvalidStatement : Addr} {n_InvalidStatement q_InvalidStatement file_InvalidStatement : Str} {bs_InvalidStatement : List Value} {sn_InvalidStatement : List Str} {sub_InvalidStatement : List Value} {ab_InvalidStatement : Bool} {col_InvalidStatement : Option Bool} {dd_InvalidStatement od_InvalidStatement an_InvalidStatement cdd_InvalidStatement cld_InvalidStatement : Option Addr} {k0_InvalidStatement k1_InvalidStatement k2_InvalidStatement k3_InvalidStatement k5_InvalidStatement : Option Value} {oc_InvalidStatement doc_InvalidStatement pm_InvalidStatement ct_InvalidStatement ccl_InvalidStatement cl_InvalidStatement : Value} {osl_InvalidStatement ccs_InvalidStatement csl_InvalidStatement : Array (Option Value)} {ln_InvalidStatement : Nat} {p1_InvalidStatement p2_InvalidStatement q1_InvalidStatement q2_InvalidStatement q3_InvalidStatement q4_InvalidStatement : Pos} {vs_InvalidStatement : Array Value} {tf_InvalidStatement : Tok}
    (aC_InvalidStatement : PySem.W.nsIn K mainGlobals "InvalidStatement" = some (some (.ref C_InvalidStatement)))
    (xC_InvalidStatement : K.lookup C_InvalidStatement = some (excClassObj n_InvalidStatement q_InvalidStatement C_InvalidStatement N_InvalidStatement bs_InvalidStatement (.ref D_InvalidStatement :: PXE.veBm) true sn_InvalidStatement sub_InvalidStatement ab_InvalidStatement col_InvalidStatement dd_InvalidStatement k0_InvalidStatement k1_InvalidStatement k2_InvalidStatement k3_InvalidStatement k5_InvalidStatement "ValueError.__new__")) (ne_InvalidStatement : (Value.ref C_InvalidStatement != Value.ref D_InvalidStatement) = true)
    (sa_InvalidStatement : PySem.W.findIn K (.ref C_InvalidStatement) "__setattr__" = some (some (.builtin "object.__setattr__"))) (ga_InvalidStatement : PySem.W.findIn K (.ref C_InvalidStatement) "__getattribute__" = some (some (.builtin "BaseException.__getattribute__"))) (gg_InvalidStatement : PySem.W.findIn K (.ref C_InvalidStatement) "__getattr__" = some none) (nv_InvalidStatement : PySem.W.findIn K (.ref C_InvalidStatement) "value" = some none)
    (iC_InvalidStatement : PySem.W.findIn K (.ref C_InvalidStatement) "__init__" = some (some (.ref fI_InvalidStatement))) (tC_InvalidStatement : PySem.W.typeIn K (.ref fI_InvalidStatement) = some (.type "function"))
    (l1_InvalidStatement : K.lookup fI_InvalidStatement = some ⟨oc_InvalidStatement, od_InvalidStatement, .func (PySem.W.ksFn "__init__" "StrideError.__init__" (PXE.xA p1_InvalidStatement p2_InvalidStatement) (PXE.xB ln_InvalidStatement q1_InvalidStatement q2_InvalidStatement q3_InvalidStatement q4_InvalidStatement) PXE.xS .none .none doc_InvalidStatement pm_InvalidStatement an_InvalidStatement (.ref cda_InvalidStatement) ct_InvalidStatement cc_InvalidStatement), osl_InvalidStatement⟩) (c1_InvalidStatement : PySem.W.codeIn K (.ref cda_InvalidStatement) "StrideError.__init__" = true)
    (lc_InvalidStatement : K.lookup cda_InvalidStatement = some ⟨ccl_InvalidStatement, cdd_InvalidStatement, .fields vs_InvalidStatement, ccs_InvalidStatement⟩) (hv_InvalidStatement : vs_InvalidStatement[2]? = some (.str file_InvalidStatement tf_InvalidStatement)) (hf_InvalidStatement : ((l.prog.main.file : Str) == file_InvalidStatement) = true) (lcc_InvalidStatement : K.lookup cc_InvalidStatement = some ⟨cl_InvalidStatement, cld_InvalidStatement, .cell (some (.ref D_InvalidStatement)), csl_InvalidStatement⟩) (hln_InvalidStatement : ln_InvalidStatement = 5 ∨ ln_InvalidStatement = 8)
    (kC_InvalidStatement : PySem.W.keepIn K (.ref C_InvalidStatement) = true) (eC_InvalidStatement : PySem.W.subIn K (.ref C_InvalidStatement) (.type "BaseException") = some true) (vC_InvalidStatement : PySem.W.subIn K (.ref C_InvalidStatement) (.type "ValueError") = some true) (yC_InvalidStatement : PySem.W.typeIn K (.ref C_InvalidStatement) = some (.type "type")) (hC_InvalidStatement : PySem.W.hasDictIn K C_InvalidStatement = true) (isC_InvalidStatement : PySem.W.isClsIn K C_InvalidStatement = true) (sC_InvalidStatement : PySem.W.subIn K (.ref C_InvalidStatement) (.ref C_InvalidStatement) = some true)
    (ny_InvalidStatement : PySem.W.nsIn K cStatics "thirdparty.any" = some none) (mD_InvalidStatement : PySem.W.mroIn K C_InvalidStatement (.ref D_InvalidStatement) = some true) (isD_InvalidStatement : PySem.W.isClsIn K D_InvalidStatement = true) (zs_InvalidStatement : PySem.W.nsIn K mainGlobals "super" = some none) (tp_InvalidStatement : (l.prog.main.scope.names.lookup ("super" : Str)).isSome = false)
    {C_InvalidBarrier D_InvalidBarrier fI_InvalidBarrier cda_InvalidBarrier cc_InvalidBarrier N_InvalidBarrier : Addr} {n_InvalidBarrier q_InvalidBarrier file_InvalidBarrier : Str} {bs_InvalidBarrier : List Value} {sn_InvalidBarrier : List Str} {sub_InvalidBarrier : List Value} {ab_InvalidBarrier : Bool} {col_InvalidBarrier : Option Bool} {dd_InvalidBarrier od_InvalidBarrier an_InvalidBarrier cdd_InvalidBarrier cld_InvalidBarrier : Option Addr} {k0_InvalidBarrier k1_InvalidBarrier k2_InvalidBarrier k3_InvalidBarrier k5_InvalidBarrier : Option Value} {oc_InvalidBarrier doc_InvalidBarrier pm_InvalidBarrier ct_InvalidBarrier ccl_InvalidBarrier cl_InvalidBarrier : Value} {osl_InvalidBarrier ccs_InvalidBarrier csl_InvalidBarrier : Array (Option Value)} {ln_InvalidBarrier : Nat} {p1_InvalidBarrier p2_InvalidBarrier q1_InvalidBarrier q2_InvalidBarrier q3_InvalidBarrier q4_InvalidBarrier : Pos} {vs_InvalidBarrier : Array Value} {tf_InvalidBarrier : Tok}
    (aC_InvalidBarrier : PySem.W.nsIn K mainGlobals "InvalidBarrier" = some (some (.ref C_InvalidBarrier)))
    (xC_InvalidBarrier : K.lookup C_InvalidBarrier = some (excClassObj n_InvalidBarrier q_InvalidBarrier C_InvalidBarrier N_InvalidBarrier bs_InvalidBarrier (.ref D_InvalidBarrier :: PXE.veBm) true sn_InvalidBarrier sub_InvalidBarrier ab_InvalidBarrier col_InvalidBarrier dd_InvalidBarrier k0_InvalidBarrier k1_InvalidBarrier k2_InvalidBarrier k3_InvalidBarrier k5_InvalidBarrier "ValueError.__new__")) (ne_InvalidBarrier : (Value.ref C_InvalidBarrier != Value.ref D_InvalidBarrier) = true)
    (sa_InvalidBarrier : PySem.W.findIn K (.ref C_InvalidBarrier) "__setattr__" = some (some (.builtin "object.__setattr__"))) (ga_InvalidBarrier : PySem.W.findIn K (.ref C_InvalidBarrier) "__getattribute__" = some (some (.builtin "BaseException.__getattribute__"))) (gg_InvalidBarrier : PySem.W.findIn K (.ref C_InvalidBarrier) "__getattr__" = some none) (nv_InvalidBarrier : PySem.W.findIn K (.ref C_InvalidBarrier) "value" = some none)
    (iC_InvalidBarrier : PySem.W.findIn K (.ref C_InvalidBarrier) "__init__" = some (some (.ref fI_InvalidBarrier))) (tC_InvalidBarrier : PySem.W.typeIn K (.ref fI_InvalidBarrier) = some (.type "function"))
    (l1_InvalidBarrier : K.lookup fI_InvalidBarrier = some ⟨oc_InvalidBarrier, od_InvalidBarrier, .func (PySem.W.ksFn "__init__" "StrideError.__init__" (PXE.xA p1_InvalidBarrier p2_InvalidBarrier) (PXE.xB ln_InvalidBarrier q1_InvalidBarrier q2_InvalidBarrier q3_InvalidBarrier q4_InvalidBarrier) PXE.xS .none .none doc_InvalidBarrier pm_InvalidBarrier an_InvalidBarrier (.ref cda_InvalidBarrier) ct_InvalidBarrier cc_InvalidBarrier), osl_InvalidBarrier⟩) (c1_InvalidBarrier : PySem.W.codeIn K (.ref cda_InvalidBarrier) "StrideError.__init__" = true)
    (lc_InvalidBarrier : K.lookup cda_InvalidBarrier = some ⟨ccl_InvalidBarrier, cdd_InvalidBarrier, .fields vs_InvalidBarrier, ccs_InvalidBarrier⟩) (hv_InvalidBarrier : vs_InvalidBarrier[2]? = some (.str file_InvalidBarrier tf_InvalidBarrier)) (hf_InvalidBarrier : ((l.prog.main.file : Str) == file_InvalidBarrier) = true) (lcc_InvalidBarrier : K.lookup cc_InvalidBarrier = some ⟨cl_InvalidBarrier, cld_InvalidBarrier, .cell (some (.ref D_InvalidBarrier)), csl_InvalidBarrier⟩) (hln_InvalidBarrier : ln_InvalidBarrier = 5 ∨ ln_InvalidBarrier = 8)
    (kC_InvalidBarrier : PySem.W.keepIn K (.ref C_InvalidBarrier) = true) (eC_InvalidBarrier : PySem.W.subIn K (.ref C_InvalidBarrier) (.type "BaseException") = some true) (vC_InvalidBarrier : PySem.W.subIn K (.ref C_InvalidBarrier) (.type "ValueError") = some true) (yC_InvalidBarrier : PySem.W.typeIn K (.ref C_InvalidBarrier) = some (.type "type")) (hC_InvalidBarrier : PySem.W.hasDictIn K C_InvalidBarrier = true) (isC_InvalidBarrier : PySem.W.isClsIn K C_InvalidBarrier = true) (sC_InvalidBarrier : PySem.W.subIn K (.ref C_InvalidBarrier) (.ref C_InvalidBarrier) = some true)
    (ny_InvalidBarrier : PySem.W.nsIn K cStatics "thirdparty.any" = some none) (mD_InvalidBarrier : PySem.W.mroIn K C_InvalidBarrier (.ref D_InvalidBarrier) = some true) (isD_InvalidBarrier : PySem.W.isClsIn K D_InvalidBarrier = true) (zs_InvalidBarrier : PySem.W.nsIn K mainGlobals "super" = some none) (tp_InvalidBarrier : (l.prog.main.scope.names.lookup ("super" : Str)).isSome = false)
    {C_InvalidAccess D_InvalidAccess fI_InvalidAccess cda_InvalidAccess cc_InvalidAccess N_InvalidAccess : Addr} {n_InvalidAccess q_InvalidAccess file_InvalidAccess : Str} {bs_InvalidAccess : List Value} {sn_InvalidAccess : List Str} {sub_InvalidAccess : List Value} {ab_InvalidAccess : Bool} {col_InvalidAccess : Option Bool} {dd_InvalidAccess od_InvalidAccess an_InvalidAccess cdd_InvalidAccess cld_InvalidAccess : Option Addr} {k0_InvalidAccess k1_InvalidAccess k2_InvalidAccess k3_InvalidAccess k5_InvalidAccess : Option Value} {oc_InvalidAccess doc_InvalidAccess pm_InvalidAccess ct_InvalidAccess ccl_InvalidAccess cl_InvalidAccess : Value} {osl_InvalidAccess ccs_InvalidAccess csl_InvalidAccess : Array (Option Value)} {ln_InvalidAccess : Nat} {p1_InvalidAccess p2_InvalidAccess q1_InvalidAccess q2_InvalidAccess q3_InvalidAccess q4_InvalidAccess : Pos} {vs_InvalidAccess : Array Value} {tf_InvalidAccess : Tok}
    (aC_InvalidAccess : PySem.W.nsIn K mainGlobals "InvalidAccess" = some (some (.ref C_InvalidAccess)))
    (xC_InvalidAccess : K.lookup C_InvalidAccess = some (excClassObj n_InvalidAccess q_InvalidAccess C_InvalidAccess N_InvalidAccess bs_InvalidAccess (.ref D_InvalidAccess :: PXE.veBm) true sn_InvalidAccess sub_InvalidAccess ab_InvalidAccess col_InvalidAccess dd_InvalidAccess k0_InvalidAccess k1_InvalidAccess k2_InvalidAccess k3_InvalidAccess k5_InvalidAccess "ValueError.__new__")) (ne_InvalidAccess : (Value.ref C_InvalidAccess != Value.ref D_InvalidAccess) = true)
    (sa_InvalidAccess : PySem.W.findIn K (.ref C_InvalidAccess) "__setattr__" = some (some (.builtin "object.__setattr__"))) (ga_InvalidAccess : PySem.W.findIn K (.ref C_InvalidAccess) "__getattribute__" = some (some (.builtin "BaseException.__getattribute__"))) (gg_InvalidAccess : PySem.W.findIn K (.ref C_InvalidAccess) "__getattr__" = some none) (nv_InvalidAccess : PySem.W.findIn K (.ref C_InvalidAccess) "value" = some none)
    (iC_InvalidAccess : PySem.W.findIn K (.ref C_InvalidAccess) "__init__" = some (some (.ref fI_InvalidAccess))) (tC_InvalidAccess : PySem.W.typeIn K (.ref fI_InvalidAccess) = some (.type "function"))
    (l1_InvalidAccess : K.lookup fI_InvalidAccess = some ⟨oc_InvalidAccess, od_InvalidAccess, .func (PySem.W.ksFn "__init__" "StrideError.__init__" (PXE.xA p1_InvalidAccess p2_InvalidAccess) (PXE.xB ln_InvalidAccess q1_InvalidAccess q2_InvalidAccess q3_InvalidAccess q4_InvalidAccess) PXE.xS .none .none doc_InvalidAccess pm_InvalidAccess an_InvalidAccess (.ref cda_InvalidAccess) ct_InvalidAccess cc_InvalidAccess), osl_InvalidAccess⟩) (c1_InvalidAccess : PySem.W.codeIn K (.ref cda_InvalidAccess) "StrideError.__init__" = true)
    (lc_InvalidAccess : K.lookup cda_InvalidAccess = some ⟨ccl_InvalidAccess, cdd_InvalidAccess, .fields vs_InvalidAccess, ccs_InvalidAccess⟩) (hv_InvalidAccess : vs_InvalidAccess[2]? = some (.str file_InvalidAccess tf_InvalidAccess)) (hf_InvalidAccess : ((l.prog.main.file : Str) == file_InvalidAccess) = true) (lcc_InvalidAccess : K.lookup cc_InvalidAccess = some ⟨cl_InvalidAccess, cld_InvalidAccess, .cell (some (.ref D_InvalidAccess)), csl_InvalidAccess⟩) (hln_InvalidAccess : ln_InvalidAccess = 5 ∨ ln_InvalidAccess = 8)
    (kC_InvalidAccess : PySem.W.keepIn K (.ref C_InvalidAccess) = true) (eC_InvalidAccess : PySem.W.subIn K (.ref C_InvalidAccess) (.type "BaseException") = some true) (vC_InvalidAccess : PySem.W.subIn K (.ref C_InvalidAccess) (.type "ValueError") = some true) (yC_InvalidAccess : PySem.W.typeIn K (.ref C_InvalidAccess) = some (.type "type")) (hC_InvalidAccess : PySem.W.hasDictIn K C_InvalidAccess = true) (isC_InvalidAccess : PySem.W.isClsIn K C_InvalidAccess = true) (sC_InvalidAccess : PySem.W.subIn K (.ref C_InvalidAccess) (.ref C_InvalidAccess) = some true)
    (ny_InvalidAccess : PySem.W.nsIn K cStatics "thirdparty.any" = some none) (mD_InvalidAccess : PySem.W.mroIn K C_InvalidAccess (.ref D_InvalidAccess) = some true) (isD_InvalidAccess : PySem.W.isClsIn K D_InvalidAccess = true) (zs_InvalidAccess : PySem.W.nsIn K mainGlobals "super" = some none) (tp_InvalidAccess : (l.prog.main.scope.names.lookup ("super" : Str)).isSome = false)
    {C_InvalidNumber D_InvalidNumber fI_InvalidNumber cda_InvalidNumber cc_InvalidNumber N_InvalidNumber : Addr} {n_InvalidNumber q_InvalidNumber file_InvalidNumber : Str} {bs_InvalidNumber : List Value} {sn_InvalidNumber : List Str} {sub_InvalidNumber : List Value} {ab_InvalidNumber : Bool} {col_InvalidNumber : Option Bool} {dd_InvalidNumber od_InvalidNumber an_InvalidNumber cdd_InvalidNumber cld_InvalidNumber : Option Addr} {k0_InvalidNumber k1_InvalidNumber k2_InvalidNumber k3_InvalidNumber k5_InvalidNumber : Option Value} {oc_InvalidNumber doc_InvalidNumber pm_InvalidNumber ct_InvalidNumber ccl_InvalidNumber cl_InvalidNumber : Value} {osl_InvalidNumber ccs_InvalidNumber csl_InvalidNumber : Array (Option Value)} {ln_InvalidNumber : Nat} {p1_InvalidNumber p2_InvalidNumber q1_InvalidNumber q2_InvalidNumber q3_InvalidNumber q4_InvalidNumber : Pos} {vs_InvalidNumber : Array Value} {tf_InvalidNumber : Tok}
    (aC_InvalidNumber : PySem.W.nsIn K mainGlobals "InvalidNumber" = some (some (.ref C_InvalidNumber)))
    (xC_InvalidNumber : K.lookup C_InvalidNumber = some (excClassObj n_InvalidNumber q_InvalidNumber C_InvalidNumber N_InvalidNumber bs_InvalidNumber (.ref D_InvalidNumber :: PXE.veBm) true sn_InvalidNumber sub_InvalidNumber ab_InvalidNumber col_InvalidNumber dd_InvalidNumber k0_InvalidNumber k1_InvalidNumber k2_InvalidNumber k3_InvalidNumber k5_InvalidNumber "ValueError.__new__")) (ne_InvalidNumber : (Value.ref C_InvalidNumber != Value.ref D_InvalidNumber) = true)
    (sa_InvalidNumber : PySem.W.findIn K (.ref C_InvalidNumber) "__setattr__" = some (some (.builtin "object.__setattr__"))) (ga_InvalidNumber : PySem.W.findIn K (.ref C_InvalidNumber) "__getattribute__" = some (some (.builtin "BaseException.__getattribute__"))) (gg_InvalidNumber : PySem.W.findIn K (.ref C_InvalidNumber) "__getattr__" = some none) (nv_InvalidNumber : PySem.W.findIn K (.ref C_InvalidNumber) "value" = some none)
    (iC_InvalidNumber : PySem.W.findIn K (.ref C_InvalidNumber) "__init__" = some (some (.ref fI_InvalidNumber))) (tC_InvalidNumber : PySem.W.typeIn K (.ref fI_InvalidNumber) = some (.type "function"))
    (l1_InvalidNumber : K.lookup fI_InvalidNumber = some ⟨oc_InvalidNumber, od_InvalidNumber, .func (PySem.W.ksFn "__init__" "StrideError.__init__" (PXE.xA p1_InvalidNumber p2_InvalidNumber) (PXE.xB ln_InvalidNumber q1_InvalidNumber q2_InvalidNumber q3_InvalidNumber q4_InvalidNumber) PXE.xS .none .none doc_InvalidNumber pm_InvalidNumber an_InvalidNumber (.ref cda_InvalidNumber) ct_InvalidNumber cc_InvalidNumber), osl_InvalidNumber⟩) (c1_InvalidNumber : PySem.W.codeIn K (.ref cda_InvalidNumber) "StrideError.__init__" = true)
    (lc_InvalidNumber : K.lookup cda_InvalidNumber = some ⟨ccl_InvalidNumber, cdd_InvalidNumber, .fields vs_InvalidNumber, ccs_InvalidNumber⟩) (hv_InvalidNumber : vs_InvalidNumber[2]? = some (.str file_InvalidNumber tf_InvalidNumber)) (hf_InvalidNumber : ((l.prog.main.file : Str) == file_InvalidNumber) = true) (lcc_InvalidNumber : K.lookup cc_InvalidNumber = some ⟨cl_InvalidNumber, cld_InvalidNumber, .cell (some (.ref D_InvalidNumber)), csl_InvalidNumber⟩) (hln_InvalidNumber : ln_InvalidNumber = 5 ∨ ln_InvalidNumber = 8)
    (kC_InvalidNumber : PySem.W.keepIn K (.ref C_InvalidNumber) = true) (eC_InvalidNumber : PySem.W.subIn K (.ref C_InvalidNumber) (.type "BaseException") = some true) (vC_InvalidNumber : PySem.W.subIn K (.ref C_InvalidNumber) (.type "ValueError") = some true) (yC_InvalidNumber : PySem.W.typeIn K (.ref C_InvalidNumber) = some (.type "type")) (hC_InvalidNumber : PySem.W.hasDictIn K C_InvalidNumber = true) (isC_InvalidNumber : PySem.W.isClsIn K C_InvalidNumber = true) (sC_InvalidNumber : PySem.W.subIn K (.ref C_InvalidNumber) (.ref C_InvalidNumber) = some true)
    (ny_InvalidNumber : PySem.W.nsIn K cStatics "thirdparty.any" = some none) (mD_InvalidNumber : PySem.W.mroIn K C_InvalidNumber (.ref D_InvalidNumber) = some true) (isD_InvalidNumber : PySem.W.isClsIn K D_InvalidNumber = true) (zs_InvalidNumber : PySem.W.nsIn K mainGlobals "super" = some none) (tp_InvalidNumber : (l.prog.main.scope.names.lookup ("super" : Str)).isSome = false)
    {C_InvalidArray D_InvalidArray fI_InvalidArray cda_InvalidArray cc_InvalidArray N_InvalidArray : Addr} {n_InvalidArray q_InvalidArray file_InvalidArray : Str} {bs_InvalidArray : List Value} {sn_InvalidArray : List Str} {sub_InvalidArray : List Value} {ab_InvalidArray : Bool} {col_InvalidArray : Option Bool} {dd_InvalidArray od_InvalidArray an_InvalidArray cdd_InvalidArray cld_InvalidArray : Option Addr} {k0_InvalidArray k1_InvalidArray k2_InvalidArray k3_InvalidArray k5_InvalidArray : Option Value} {oc_InvalidArray doc_InvalidArray pm_InvalidArray ct_InvalidArray ccl_InvalidArray cl_InvalidArray : Value} {osl_InvalidArray ccs_InvalidArray csl_InvalidArray : Array (Option Value)} {ln_InvalidArray : Nat} {p1_InvalidArray p2_InvalidArray q1_InvalidArray q2_InvalidArray q3_InvalidArray q4_InvalidArray : Pos} {vs_InvalidArray : Array Value} {tf_InvalidArray : Tok}
    (aC_InvalidArray : PySem.W.nsIn K mainGlobals "InvalidArray" = some (some (.ref C_InvalidArray)))
    (xC_InvalidArray : K.lookup C_InvalidArray = some (excClassObj n_InvalidArray q_InvalidArray C_InvalidArray N_InvalidArray bs_InvalidArray (.ref D_InvalidArray :: PXE.veBm) true sn_InvalidArray sub_InvalidArray ab_InvalidArray col_InvalidArray dd_InvalidArray k0_InvalidArray k1_InvalidArray k2_InvalidArray k3_InvalidArray k5_InvalidArray "ValueError.__new__")) (ne_InvalidArray : (Value.ref C_InvalidArray != Value.ref D_InvalidArray) = true)
    (sa_InvalidArray : PySem.W.findIn K (.ref C_InvalidArray) "__setattr__" = some (some (.builtin "object.__setattr__"))) (ga_InvalidArray : PySem.W.findIn K (.ref C_InvalidArray) "__getattribute__" = some (some (.builtin "BaseException.__getattribute__"))) (gg_InvalidArray : PySem.W.findIn K (.ref C_InvalidArray) "__getattr__" = some none) (nv_InvalidArray : PySem.W.findIn K (.ref C_InvalidArray) "value" = some none)
    (iC_InvalidArray : PySem.W.findIn K (.ref C_InvalidArray) "__init__" = some (some (.ref fI_InvalidArray))) (tC_InvalidArray : PySem.W.typeIn K (.ref fI_InvalidArray) = some (.type "function"))
    (l1_InvalidArray : K.lookup fI_InvalidArray = some ⟨oc_InvalidArray, od_InvalidArray, .func (PySem.W.ksFn "__init__" "StrideError.__init__" (PXE.xA p1_InvalidArray p2_InvalidArray) (PXE.xB ln_InvalidArray q1_InvalidArray q2_InvalidArray q3_InvalidArray q4_InvalidArray) PXE.xS .none .none doc_InvalidArray pm_InvalidArray an_InvalidArray (.ref cda_InvalidArray) ct_InvalidArray cc_InvalidArray), osl_InvalidArray⟩) (c1_InvalidArray : PySem.W.codeIn K (.ref cda_InvalidArray) "StrideError.__init__" = true)
    (lc_InvalidArray : K.lookup cda_InvalidArray = some ⟨ccl_InvalidArray, cdd_InvalidArray, .fields vs_InvalidArray, ccs_InvalidArray⟩) (hv_InvalidArray : vs_InvalidArray[2]? = some (.str file_InvalidArray tf_InvalidArray)) (hf_InvalidArray : ((l.prog.main.file : Str) == file_InvalidArray) = true) (lcc_InvalidArray : K.lookup cc_InvalidArray = some ⟨cl_InvalidArray, cld_InvalidArray, .cell (some (.ref D_InvalidArray)), csl_InvalidArray⟩) (hln_InvalidArray : ln_InvalidArray = 5 ∨ ln_InvalidArray = 8)
    (kC_InvalidArray : PySem.W.keepIn K (.ref C_InvalidArray) = true) (eC_InvalidArray : PySem.W.subIn K (.ref C_InvalidArray) (.type "BaseException") = some true) (vC_InvalidArray : PySem.W.subIn K (.ref C_InvalidArray) (.type "ValueError") = some true) (yC_InvalidArray : PySem.W.typeIn K (.ref C_InvalidArray) = some (.type "type")) (hC_InvalidArray : PySem.W.hasDictIn K C_InvalidArray = true) (isC_InvalidArray : PySem.W.isClsIn K C_InvalidArray = true) (sC_InvalidArray : PySem.W.subIn K (.ref C_InvalidArray) (.ref C_InvalidArray) = some true)
    (ny_InvalidArray : PySem.W.nsIn K cStatics "thirdparty.any" = some none) (mD_InvalidArray : PySem.W.mroIn K C_InvalidArray (.ref D_InvalidArray) = some true) (isD_InvalidArray : PySem.W.isClsIn K D_InvalidArray = true) (zs_InvalidArray : PySem.W.nsIn K mainGlobals "super" = some none) (tp_InvalidArray : (l.prog.main.scope.names.lookup ("super" : Str)).isSome = false)
    {C_InvalidSchedule D_InvalidSchedule fI_InvalidSchedule cda_InvalidSchedule cc_InvalidSchedule N_InvalidSchedule : Addr} {n_InvalidSchedule q_InvalidSchedule file_InvalidSchedule : Str} {bs_InvalidSchedule : List Value} {sn_InvalidSchedule : List Str} {sub_InvalidSchedule : List Value} {ab_InvalidSchedule : Bool} {col_InvalidSchedule : Option Bool} {dd_InvalidSchedule od_InvalidSchedule an_InvalidSchedule cdd_InvalidSchedule cld_InvalidSchedule : Option Addr} {k0_InvalidSchedule k1_InvalidSchedule k2_InvalidSchedule k3_InvalidSchedule k5_InvalidSchedule : Option Value} {oc_InvalidSchedule doc_InvalidSchedule pm_InvalidSchedule ct_InvalidSchedule ccl_InvalidSchedule cl_InvalidSchedule : Value} {osl_InvalidSchedule ccs_InvalidSchedule csl_InvalidSchedule : Array (Option Value)} {ln_InvalidSchedule : Nat} {p1_InvalidSchedule p2_InvalidSchedule q1_InvalidSchedule q2_InvalidSchedule q3_InvalidSchedule q4_InvalidSchedule : Pos} {vs_InvalidSchedule : Array Value} {tf_InvalidSchedule : Tok}
    (aC_InvalidSchedule : PySem.W.nsIn K mainGlobals "InvalidSchedule" = some (some (.ref C_InvalidSchedule)))
    (xC_InvalidSchedule : K.lookup C_InvalidSchedule = some (excClassObj n_InvalidSchedule q_InvalidSchedule C_InvalidSchedule N_InvalidSchedule bs_InvalidSchedule (.ref D_InvalidSchedule :: PXE.veBm) true sn_InvalidSchedule sub_InvalidSchedule ab_InvalidSchedule col_InvalidSchedule dd_InvalidSchedule k0_InvalidSchedule k1_InvalidSchedule k2_InvalidSchedule k3_InvalidSchedule k5_InvalidSchedule "ValueError.__new__")) (ne_InvalidSchedule : (Value.ref C_InvalidSchedule != Value.ref D_InvalidSchedule) = true)
    (sa_InvalidSchedule : PySem.W.findIn K (.ref C_InvalidSchedule) "__setattr__" = some (some (.builtin "object.__setattr__"))) (ga_InvalidSchedule : PySem.W.findIn K (.ref C_InvalidSchedule) "__getattribute__" = some (some (.builtin "BaseException.__getattribute__"))) (gg_InvalidSchedule : PySem.W.findIn K (.ref C_InvalidSchedule) "__getattr__" = some none) (nv_InvalidSchedule : PySem.W.findIn K (.ref C_InvalidSchedule) "value" = some none)
    (iC_InvalidSchedule : PySem.W.findIn K (.ref C_InvalidSchedule) "__init__" = some (some (.ref fI_InvalidSchedule))) (tC_InvalidSchedule : PySem.W.typeIn K (.ref fI_InvalidSchedule) = some (.type "function"))
    (l1_InvalidSchedule : K.lookup fI_InvalidSchedule = some ⟨oc_InvalidSchedule, od_InvalidSchedule, .func (PySem.W.ksFn "__init__" "StrideError.__init__" (PXE.xA p1_InvalidSchedule p2_InvalidSchedule) (PXE.xB ln_InvalidSchedule q1_InvalidSchedule q2_InvalidSchedule q3_InvalidSchedule q4_InvalidSchedule) PXE.xS .none .none doc_InvalidSchedule pm_InvalidSchedule an_InvalidSchedule (.ref cda_InvalidSchedule) ct_InvalidSchedule cc_InvalidSchedule), osl_InvalidSchedule⟩) (c1_InvalidSchedule : PySem.W.codeIn K (.ref cda_InvalidSchedule) "StrideError.__init__" = true)
    (lc_InvalidSchedule : K.lookup cda_InvalidSchedule = some ⟨ccl_InvalidSchedule, cdd_InvalidSchedule, .fields vs_InvalidSchedule, ccs_InvalidSchedule⟩) (hv_InvalidSchedule : vs_InvalidSchedule[2]? = some (.str file_InvalidSchedule tf_InvalidSchedule)) (hf_InvalidSchedule : ((l.prog.main.file : Str) == file_InvalidSchedule) = true) (lcc_InvalidSchedule : K.lookup cc_InvalidSchedule = some ⟨cl_InvalidSchedule, cld_InvalidSchedule, .cell (some (.ref D_InvalidSchedule)), csl_InvalidSchedule⟩) (hln_InvalidSchedule : ln_InvalidSchedule = 5 ∨ ln_InvalidSchedule = 8)
    (kC_InvalidSchedule : PySem.W.keepIn K (.ref C_InvalidSchedule) = true) (eC_InvalidSchedule : PySem.W.subIn K (.ref C_InvalidSchedule) (.type "BaseException") = some true) (vC_InvalidSchedule : PySem.W.subIn K (.ref C_InvalidSchedule) (.type "ValueError") = some true) (yC_InvalidSchedule : PySem.W.typeIn K (.ref C_InvalidSchedule) = some (.type "type")) (hC_InvalidSchedule : PySem.W.hasDictIn K C_InvalidSchedule = true) (isC_InvalidSchedule : PySem.W.isClsIn K C_InvalidSchedule = true) (sC_InvalidSchedule : PySem.W.subIn K (.ref C_InvalidSchedule) (.ref C_InvalidSchedule) = some true)
    (ny_InvalidSchedule : PySem.W.nsIn K cStatics "thirdparty.any" = some none) (mD_InvalidSchedule : PySem.W.mroIn K C_InvalidSchedule (.ref D_InvalidSchedule) = some true) (isD_InvalidSchedule : PySem.W.isClsIn K D_InvalidSchedule = true) (zs_InvalidSchedule : PySem.W.nsIn K mainGlobals "super" = some none) (tp_InvalidSchedule : (l.prog.main.scope.names.lookup ("super" : Str)).isSome = false)
    {C_UnlikeLanes D_UnlikeLanes fI_UnlikeLanes cda_UnlikeLanes cc_UnlikeLanes N_UnlikeLanes : Addr} {n_UnlikeLanes q_UnlikeLanes file_UnlikeLanes : Str} {bs_UnlikeLanes : List Value} {sn_UnlikeLanes : List Str} {sub_UnlikeLanes : List Value} {ab_UnlikeLanes : Bool} {col_UnlikeLanes : Option Bool} {dd_UnlikeLanes od_UnlikeLanes an_UnlikeLanes cdd_UnlikeLanes cld_UnlikeLanes : Option Addr} {k0_UnlikeLanes k1_UnlikeLanes k2_UnlikeLanes k3_UnlikeLanes k5_UnlikeLanes : Option Value} {oc_UnlikeLanes doc_UnlikeLanes pm_UnlikeLanes ct_UnlikeLanes ccl_UnlikeLanes cl_UnlikeLanes : Value} {osl_UnlikeLanes ccs_UnlikeLanes csl_UnlikeLanes : Array (Option Value)} {ln_UnlikeLanes : Nat} {p1_UnlikeLanes p2_UnlikeLanes q1_UnlikeLanes q2_UnlikeLanes q3_UnlikeLanes q4_UnlikeLanes : Pos} {vs_UnlikeLanes : Array Value} {tf_UnlikeLanes : Tok}
    (aC_UnlikeLanes : PySem.W.nsIn K mainGlobals "UnlikeLanes" = some (some (.ref C_UnlikeLanes)))
    (xC_UnlikeLanes : K.lookup C_UnlikeLanes = some (excClassObj n_UnlikeLanes q_UnlikeLanes C_UnlikeLanes N_UnlikeLanes bs_UnlikeLanes (.ref D_UnlikeLanes :: PXE.veBm) true sn_UnlikeLanes sub_UnlikeLanes ab_UnlikeLanes col_UnlikeLanes dd_UnlikeLanes k0_UnlikeLanes k1_UnlikeLanes k2_UnlikeLanes k3_UnlikeLanes k5_UnlikeLanes "ValueError.__new__")) (ne_UnlikeLanes : (Value.ref C_UnlikeLanes != Value.ref D_UnlikeLanes) = true)
    (sa_UnlikeLanes : PySem.W.findIn K (.ref C_UnlikeLanes) "__setattr__" = some (some (.builtin "object.__setattr__"))) (ga_UnlikeLanes : PySem.W.findIn K (.ref C_UnlikeLanes) "__getattribute__" = some (some (.builtin "BaseException.__getattribute__"))) (gg_UnlikeLanes : PySem.W.findIn K (.ref C_UnlikeLanes) "__getattr__" = some none) (nv_UnlikeLanes : PySem.W.findIn K (.ref C_UnlikeLanes) "value" = some none)
    (iC_UnlikeLanes : PySem.W.findIn K (.ref C_UnlikeLanes) "__init__" = some (some (.ref fI_UnlikeLanes))) (tC_UnlikeLanes : PySem.W.typeIn K (.ref fI_UnlikeLanes) = some (.type "function"))
    (l1_UnlikeLanes : K.lookup fI_UnlikeLanes = some ⟨oc_UnlikeLanes, od_UnlikeLanes, .func (PySem.W.ksFn "__init__" "StrideError.__init__" (PXE.xA p1_UnlikeLanes p2_UnlikeLanes) (PXE.xB ln_UnlikeLanes q1_UnlikeLanes q2_UnlikeLanes q3_UnlikeLanes q4_UnlikeLanes) PXE.xS .none .none doc_UnlikeLanes pm_UnlikeLanes an_UnlikeLanes (.ref cda_UnlikeLanes) ct_UnlikeLanes cc_UnlikeLanes), osl_UnlikeLanes⟩) (c1_UnlikeLanes : PySem.W.codeIn K (.ref cda_UnlikeLanes) "StrideError.__init__" = true)
    (lc_UnlikeLanes : K.lookup cda_UnlikeLanes = some ⟨ccl_UnlikeLanes, cdd_UnlikeLanes, .fields vs_UnlikeLanes, ccs_UnlikeLanes⟩) (hv_UnlikeLanes : vs_UnlikeLanes[2]? = some (.str file_UnlikeLanes tf_UnlikeLanes)) (hf_UnlikeLanes : ((l.prog.main.file : Str) == file_UnlikeLanes) = true) (lcc_UnlikeLanes : K.lookup cc_UnlikeLanes = some ⟨cl_UnlikeLanes, cld_UnlikeLanes, .cell (some (.ref D_UnlikeLanes)), csl_UnlikeLanes⟩) (hln_UnlikeLanes : ln_UnlikeLanes = 5 ∨ ln_UnlikeLanes = 8)
    (kC_UnlikeLanes : PySem.W.keepIn K (.ref C_UnlikeLanes) = true) (eC_UnlikeLanes : PySem.W.subIn K (.ref C_UnlikeLanes) (.type "BaseException") = some true) (vC_UnlikeLanes : PySem.W.subIn K (.ref C_UnlikeLanes) (.type "ValueError") = some true) (yC_UnlikeLanes : PySem.W.typeIn K (.ref C_UnlikeLanes) = some (.type "type")) (hC_UnlikeLanes : PySem.W.hasDictIn K C_UnlikeLanes = true) (isC_UnlikeLanes : PySem.W.isClsIn K C_UnlikeLanes = true) (sC_UnlikeLanes : PySem.W.subIn K (.ref C_UnlikeLanes) (.ref C_UnlikeLanes) = some true)
    (ny_UnlikeLanes : PySem.W.nsIn K cStatics "thirdparty.any" = some none) (mD_UnlikeLanes : PySem.W.mroIn K C_UnlikeLanes (.ref D_UnlikeLanes) = some true) (isD_UnlikeLanes : PySem.W.isClsIn K D_UnlikeLanes = true) (zs_UnlikeLanes : PySem.W.nsIn K mainGlobals "super" = some none) (tp_UnlikeLanes : (l.prog.main.scope.names.lookup ("super" : Str)).isSome = false)
    {C_Racing D_Racing fI_Racing cda_Racing cc_Racing N_Racing : Addr} {n_Racing q_Racing file_Racing : Str} {bs_Racing : List Value} {sn_Racing : List Str} {sub_Racing : List Value} {ab_Racing : Bool} {col_Racing : Option Bool} {dd_Racing od_Racing an_Racing cdd_Racing cld_Racing : Option Addr} {k0_Racing k1_Racing k2_Racing k3_Racing k5_Racing : Option Value} {oc_Racing doc_Racing pm_Racing ct_Racing ccl_Racing cl_Racing : Value} {osl_Racing ccs_Racing csl_Racing : Array (Option Value)} {ln_Racing : Nat} {p1_Racing p2_Racing q1_Racing q2_Racing q3_Racing q4_Racing : Pos} {vs_Racing : Array Value} {tf_Racing : Tok}
    (aC_Racing : PySem.W.nsIn K mainGlobals "Racing" = some (some (.ref C_Racing)))
    (xC_Racing : K.lookup C_Racing = some (excClassObj n_Racing q_Racing C_Racing N_Racing bs_Racing (.ref D_Racing :: PXE.veBm) true sn_Racing sub_Racing ab_Racing col_Racing dd_Racing k0_Racing k1_Racing k2_Racing k3_Racing k5_Racing "ValueError.__new__")) (ne_Racing : (Value.ref C_Racing != Value.ref D_Racing) = true)
    (sa_Racing : PySem.W.findIn K (.ref C_Racing) "__setattr__" = some (some (.builtin "object.__setattr__"))) (ga_Racing : PySem.W.findIn K (.ref C_Racing) "__getattribute__" = some (some (.builtin "BaseException.__getattribute__"))) (gg_Racing : PySem.W.findIn K (.ref C_Racing) "__getattr__" = some none) (nv_Racing : PySem.W.findIn K (.ref C_Racing) "value" = some none)
    (iC_Racing : PySem.W.findIn K (.ref C_Racing) "__init__" = some (some (.ref fI_Racing))) (tC_Racing : PySem.W.typeIn K (.ref fI_Racing) = some (.type "function"))
    (l1_Racing : K.lookup fI_Racing = some ⟨oc_Racing, od_Racing, .func (PySem.W.ksFn "__init__" "StrideError.__init__" (PXE.xA p1_Racing p2_Racing) (PXE.xB ln_Racing q1_Racing q2_Racing q3_Racing q4_Racing) PXE.xS .none .none doc_Racing pm_Racing an_Racing (.ref cda_Racing) ct_Racing cc_Racing), osl_Racing⟩) (c1_Racing : PySem.W.codeIn K (.ref cda_Racing) "StrideError.__init__" = true)
    (lc_Racing : K.lookup cda_Racing = some ⟨ccl_Racing, cdd_Racing, .fields vs_Racing, ccs_Racing⟩) (hv_Racing : vs_Racing[2]? = some (.str file_Racing tf_Racing)) (hf_Racing : ((l.prog.main.file : Str) == file_Racing) = true) (lcc_Racing : K.lookup cc_Racing = some ⟨cl_Racing, cld_Racing, .cell (some (.ref D_Racing)), csl_Racing⟩) (hln_Racing : ln_Racing = 5 ∨ ln_Racing = 8)
    (kC_Racing : PySem.W.keepIn K (.ref C_Racing) = true) (eC_Racing : PySem.W.subIn K (.ref C_Racing) (.type "BaseException") = some true) (vC_Racing : PySem.W.subIn K (.ref C_Racing) (.type "ValueError") = some true) (yC_Racing : PySem.W.typeIn K (.ref C_Racing) = some (.type "type")) (hC_Racing : PySem.W.hasDictIn K C_Racing = true) (isC_Racing : PySem.W.isClsIn K C_Racing = true) (sC_Racing : PySem.W.subIn K (.ref C_Racing) (.ref C_Racing) = some true)
    (ny_Racing : PySem.W.nsIn K cStatics "thirdparty.any" = some none) (mD_Racing : PySem.W.mroIn K C_Racing (.ref D_Racing) = some true) (isD_Racing : PySem.W.isClsIn K D_Racing = true) (zs_Racing : PySem.W.nsIn K mainGlobals "super" = some none) (tp_Racing : (l.prog.main.scope.names.lookup ("super" : Str)).isSome = false)
    {C_NotPlain D_NotPlain fI_NotPlain cda_NotPlain cc_NotPlain N_NotPlain : Addr} {n_NotPlain q_NotPlain file_NotPlain : Str} {bs_NotPlain : List Value} {sn_NotPlain : List Str} {sub_NotPlain : List Value} {ab_NotPlain : Bool} {col_NotPlain : Option Bool} {dd_NotPlain od_NotPlain an_NotPlain cdd_NotPlain cld_NotPlain : Option Addr} {k0_NotPlain k1_NotPlain k2_NotPlain k3_NotPlain k5_NotPlain : Option Value} {oc_NotPlain doc_NotPlain pm_NotPlain ct_NotPlain ccl_NotPlain cl_NotPlain : Value} {osl_NotPlain ccs_NotPlain csl_NotPlain : Array (Option Value)} {ln_NotPlain : Nat} {p1_NotPlain p2_NotPlain q1_NotPlain q2_NotPlain q3_NotPlain q4_NotPlain : Pos} {vs_NotPlain : Array Value} {tf_NotPlain : Tok}
    (aC_NotPlain : PySem.W.nsIn K mainGlobals "NotPlain" = some (some (.ref C_NotPlain)))
    (xC_NotPlain : K.lookup C_NotPlain = some (excClassObj n_NotPlain q_NotPlain C_NotPlain N_NotPlain bs_NotPlain (.ref D_NotPlain :: PXE.veBm) true sn_NotPlain sub_NotPlain ab_NotPlain col_NotPlain dd_NotPlain k0_NotPlain k1_NotPlain k2_NotPlain k3_NotPlain k5_NotPlain "ValueError.__new__")) (ne_NotPlain : (Value.ref C_NotPlain != Value.ref D_NotPlain) = true)
    (sa_NotPlain : PySem.W.findIn K (.ref C_NotPlain) "__setattr__" = some (some (.builtin "object.__setattr__"))) (ga_NotPlain : PySem.W.findIn K (.ref C_NotPlain) "__getattribute__" = some (some (.builtin "BaseException.__getattribute__"))) (gg_NotPlain : PySem.W.findIn K (.ref C_NotPlain) "__getattr__" = some none) (nv_NotPlain : PySem.W.findIn K (.ref C_NotPlain) "value" = some none)
    (iC_NotPlain : PySem.W.findIn K (.ref C_NotPlain) "__init__" = some (some (.ref fI_NotPlain))) (tC_NotPlain : PySem.W.typeIn K (.ref fI_NotPlain) = some (.type "function"))
    (l1_NotPlain : K.lookup fI_NotPlain = some ⟨oc_NotPlain, od_NotPlain, .func (PySem.W.ksFn "__init__" "StrideError.__init__" (PXE.xA p1_NotPlain p2_NotPlain) (PXE.xB ln_NotPlain q1_NotPlain q2_NotPlain q3_NotPlain q4_NotPlain) PXE.xS .none .none doc_NotPlain pm_NotPlain an_NotPlain (.ref cda_NotPlain) ct_NotPlain cc_NotPlain), osl_NotPlain⟩) (c1_NotPlain : PySem.W.codeIn K (.ref cda_NotPlain) "StrideError.__init__" = true)
    (lc_NotPlain : K.lookup cda_NotPlain = some ⟨ccl_NotPlain, cdd_NotPlain, .fields vs_NotPlain, ccs_NotPlain⟩) (hv_NotPlain : vs_NotPlain[2]? = some (.str file_NotPlain tf_NotPlain)) (hf_NotPlain : ((l.prog.main.file : Str) == file_NotPlain) = true) (lcc_NotPlain : K.lookup cc_NotPlain = some ⟨cl_NotPlain, cld_NotPlain, .cell (some (.ref D_NotPlain)), csl_NotPlain⟩) (hln_NotPlain : ln_NotPlain = 5 ∨ ln_NotPlain = 8)
    (kC_NotPlain : PySem.W.keepIn K (.ref C_NotPlain) = true) (eC_NotPlain : PySem.W.subIn K (.ref C_NotPlain) (.type "BaseException") = some true) (vC_NotPlain : PySem.W.subIn K (.ref C_NotPlain) (.type "ValueError") = some true) (yC_NotPlain : PySem.W.typeIn K (.ref C_NotPlain) = some (.type "type")) (hC_NotPlain : PySem.W.hasDictIn K C_NotPlain = true) (isC_NotPlain : PySem.W.isClsIn K C_NotPlain = true) (sC_NotPlain : PySem.W.subIn K (.ref C_NotPlain) (.ref C_NotPlain) = some true)
    (ny_NotPlain : PySem.W.nsIn K cStatics "thirdparty.any" = some none) (mD_NotPlain : PySem.W.mroIn K C_NotPlain (.ref D_NotPlain) = some true) (isD_NotPlain : PySem.W.isClsIn K D_NotPlain = true) (zs_NotPlain : PySem.W.nsIn K mainGlobals "super" = some none) (tp_NotPlain : (l.prog.main.scope.names.lookup ("super" : Str)).isSome = false)
    {C_NothingToUndo D_NothingToUndo fI_NothingToUndo cda_NothingToUndo cc_NothingToUndo N_NothingToUndo : Addr} {n_NothingToUndo q_NothingToUndo file_NothingToUndo : Str} {bs_NothingToUndo : List Value} {sn_NothingToUndo : List Str} {sub_NothingToUndo : List Value} {ab_NothingToUndo : Bool} {col_NothingToUndo : Option Bool} {dd_NothingToUndo od_NothingToUndo an_NothingToUndo cdd_NothingToUndo cld_NothingToUndo : Option Addr} {k0_NothingToUndo k1_NothingToUndo k2_NothingToUndo k3_NothingToUndo k5_NothingToUndo : Option Value} {oc_NothingToUndo doc_NothingToUndo pm_NothingToUndo ct_NothingToUndo ccl_NothingToUndo cl_NothingToUndo : Value} {osl_NothingToUndo ccs_NothingToUndo csl_NothingToUndo : Array (Option Value)} {ln_NothingToUndo : Nat} {p1_NothingToUndo p2_NothingToUndo q1_NothingToUndo q2_NothingToUndo q3_NothingToUndo q4_NothingToUndo : Pos} {vs_NothingToUndo : Array Value} {tf_NothingToUndo : Tok}
    (aC_NothingToUndo : PySem.W.nsIn K mainGlobals "NothingToUndo" = some (some (.ref C_NothingToUndo)))
    (xC_NothingToUndo : K.lookup C_NothingToUndo = some (excClassObj n_NothingToUndo q_NothingToUndo C_NothingToUndo N_NothingToUndo bs_NothingToUndo (.ref D_NothingToUndo :: PXE.veBm) true sn_NothingToUndo sub_NothingToUndo ab_NothingToUndo col_NothingToUndo dd_NothingToUndo k0_NothingToUndo k1_NothingToUndo k2_NothingToUndo k3_NothingToUndo k5_NothingToUndo "ValueError.__new__")) (ne_NothingToUndo : (Value.ref C_NothingToUndo != Value.ref D_NothingToUndo) = true)
    (sa_NothingToUndo : PySem.W.findIn K (.ref C_NothingToUndo) "__setattr__" = some (some (.builtin "object.__setattr__"))) (ga_NothingToUndo : PySem.W.findIn K (.ref C_NothingToUndo) "__getattribute__" = some (some (.builtin "BaseException.__getattribute__"))) (gg_NothingToUndo : PySem.W.findIn K (.ref C_NothingToUndo) "__getattr__" = some none) (nv_NothingToUndo : PySem.W.findIn K (.ref C_NothingToUndo) "value" = some none)
    (iC_NothingToUndo : PySem.W.findIn K (.ref C_NothingToUndo) "__init__" = some (some (.ref fI_NothingToUndo))) (tC_NothingToUndo : PySem.W.typeIn K (.ref fI_NothingToUndo) = some (.type "function"))
    (l1_NothingToUndo : K.lookup fI_NothingToUndo = some ⟨oc_NothingToUndo, od_NothingToUndo, .func (PySem.W.ksFn "__init__" "StrideError.__init__" (PXE.xA p1_NothingToUndo p2_NothingToUndo) (PXE.xB ln_NothingToUndo q1_NothingToUndo q2_NothingToUndo q3_NothingToUndo q4_NothingToUndo) PXE.xS .none .none doc_NothingToUndo pm_NothingToUndo an_NothingToUndo (.ref cda_NothingToUndo) ct_NothingToUndo cc_NothingToUndo), osl_NothingToUndo⟩) (c1_NothingToUndo : PySem.W.codeIn K (.ref cda_NothingToUndo) "StrideError.__init__" = true)
    (lc_NothingToUndo : K.lookup cda_NothingToUndo = some ⟨ccl_NothingToUndo, cdd_NothingToUndo, .fields vs_NothingToUndo, ccs_NothingToUndo⟩) (hv_NothingToUndo : vs_NothingToUndo[2]? = some (.str file_NothingToUndo tf_NothingToUndo)) (hf_NothingToUndo : ((l.prog.main.file : Str) == file_NothingToUndo) = true) (lcc_NothingToUndo : K.lookup cc_NothingToUndo = some ⟨cl_NothingToUndo, cld_NothingToUndo, .cell (some (.ref D_NothingToUndo)), csl_NothingToUndo⟩) (hln_NothingToUndo : ln_NothingToUndo = 5 ∨ ln_NothingToUndo = 8)
    (kC_NothingToUndo : PySem.W.keepIn K (.ref C_NothingToUndo) = true) (eC_NothingToUndo : PySem.W.subIn K (.ref C_NothingToUndo) (.type "BaseException") = some true) (vC_NothingToUndo : PySem.W.subIn K (.ref C_NothingToUndo) (.type "ValueError") = some true) (yC_NothingToUndo : PySem.W.typeIn K (.ref C_NothingToUndo) = some (.type "type")) (hC_NothingToUndo : PySem.W.hasDictIn K C_NothingToUndo = true) (isC_NothingToUndo : PySem.W.isClsIn K C_NothingToUndo = true) (sC_NothingToUndo : PySem.W.subIn K (.ref C_NothingToUndo) (.ref C_NothingToUndo) = some true)
    (ny_NothingToUndo : PySem.W.nsIn K cStatics "thirdparty.any" = some none) (mD_NothingToUndo : PySem.W.mroIn K C_NothingToUndo (.ref D_NothingToUndo) = some true) (isD_NothingToUndo : PySem.W.isClsIn K D_NothingToUndo = true) (zs_NothingToUndo : PySem.W.nsIn K mainGlobals "super" = some none) (tp_NothingToUndo : (l.prog.main.scope.names.lookup ("super" : Str)).isSome = false)
    {C_Unreadable D_Unreadable fI_Unreadable cda_Unreadable cc_Unreadable N_Unreadable : Addr} {n_Unreadable q_Unreadable file_Unreadable : Str} {bs_Unreadable : List Value} {sn_Unreadable : List Str} {sub_Unreadable : List Value} {ab_Unreadable : Bool} {col_Unreadable : Option Bool} {dd_Unreadable od_Unreadable an_Unreadable cdd_Unreadable cld_Unreadable : Option Addr} {k0_Unreadable k1_Unreadable k2_Unreadable k3_Unreadable k5_Unreadable : Option Value} {oc_Unreadable doc_Unreadable pm_Unreadable ct_Unreadable ccl_Unreadable cl_Unreadable : Value} {osl_Unreadable ccs_Unreadable csl_Unreadable : Array (Option Value)} {ln_Unreadable : Nat} {p1_Unreadable p2_Unreadable q1_Unreadable q2_Unreadable q3_Unreadable q4_Unreadable : Pos} {vs_Unreadable : Array Value} {tf_Unreadable : Tok}
    (aC_Unreadable : PySem.W.nsIn K mainGlobals "Unreadable" = some (some (.ref C_Unreadable)))
    (xC_Unreadable : K.lookup C_Unreadable = some (excClassObj n_Unreadable q_Unreadable C_Unreadable N_Unreadable bs_Unreadable (.ref D_Unreadable :: PXE.veBm) true sn_Unreadable sub_Unreadable ab_Unreadable col_Unreadable dd_Unreadable k0_Unreadable k1_Unreadable k2_Unreadable k3_Unreadable k5_Unreadable "ValueError.__new__")) (ne_Unreadable : (Value.ref C_Unreadable != Value.ref D_Unreadable) = true)
    (sa_Unreadable : PySem.W.findIn K (.ref C_Unreadable) "__setattr__" = some (some (.builtin "object.__setattr__"))) (ga_Unreadable : PySem.W.findIn K (.ref C_Unreadable) "__getattribute__" = some (some (.builtin "BaseException.__getattribute__"))) (gg_Unreadable : PySem.W.findIn K (.ref C_Unreadable) "__getattr__" = some none) (nv_Unreadable : PySem.W.findIn K (.ref C_Unreadable) "value" = some none)
    (iC_Unreadable : PySem.W.findIn K (.ref C_Unreadable) "__init__" = some (some (.ref fI_Unreadable))) (tC_Unreadable : PySem.W.typeIn K (.ref fI_Unreadable) = some (.type "function"))
    (l1_Unreadable : K.lookup fI_Unreadable = some ⟨oc_Unreadable, od_Unreadable, .func (PySem.W.ksFn "__init__" "StrideError.__init__" (PXE.xA p1_Unreadable p2_Unreadable) (PXE.xB ln_Unreadable q1_Unreadable q2_Unreadable q3_Unreadable q4_Unreadable) PXE.xS .none .none doc_Unreadable pm_Unreadable an_Unreadable (.ref cda_Unreadable) ct_Unreadable cc_Unreadable), osl_Unreadable⟩) (c1_Unreadable : PySem.W.codeIn K (.ref cda_Unreadable) "StrideError.__init__" = true)
    (lc_Unreadable : K.lookup cda_Unreadable = some ⟨ccl_Unreadable, cdd_Unreadable, .fields vs_Unreadable, ccs_Unreadable⟩) (hv_Unreadable : vs_Unreadable[2]? = some (.str file_Unreadable tf_Unreadable)) (hf_Unreadable : ((l.prog.main.file : Str) == file_Unreadable) = true) (lcc_Unreadable : K.lookup cc_Unreadable = some ⟨cl_Unreadable, cld_Unreadable, .cell (some (.ref D_Unreadable)), csl_Unreadable⟩) (hln_Unreadable : ln_Unreadable = 5 ∨ ln_Unreadable = 8)
    (kC_Unreadable : PySem.W.keepIn K (.ref C_Unreadable) = true) (eC_Unreadable : PySem.W.subIn K (.ref C_Unreadable) (.type "BaseException") = some true) (vC_Unreadable : PySem.W.subIn K (.ref C_Unreadable) (.type "ValueError") = some true) (yC_Unreadable : PySem.W.typeIn K (.ref C_Unreadable) = some (.type "type")) (hC_Unreadable : PySem.W.hasDictIn K C_Unreadable = true) (isC_Unreadable : PySem.W.isClsIn K C_Unreadable = true) (sC_Unreadable : PySem.W.subIn K (.ref C_Unreadable) (.ref C_Unreadable) = some true)
    (ny_Unreadable : PySem.W.nsIn K cStatics "thirdparty.any" = some none) (mD_Unreadable : PySem.W.mroIn K C_Unreadable (.ref D_Unreadable) = some true) (isD_Unreadable : PySem.W.isClsIn K D_Unreadable = true) (zs_Unreadable : PySem.W.nsIn K mainGlobals "super" = some none) (tp_Unreadable : (l.prog.main.scope.names.lookup ("super" : Str)).isSome = false)
    {C_StrideError fI_StrideError cda_StrideError cc_StrideError N_StrideError : Addr} {n_StrideError q_StrideError file_StrideError : Str} {bs_StrideError : List Value} {sn_StrideError : List Str} {sub_StrideError : List Value} {ab_StrideError : Bool} {col_StrideError : Option Bool} {dd_StrideError od_StrideError an_StrideError cdd_StrideError cld_StrideError : Option Addr} {k0_StrideError k1_StrideError k2_StrideError k3_StrideError k5_StrideError : Option Value} {oc_StrideError doc_StrideError pm_StrideError ct_StrideError ccl_StrideError cl_StrideError : Value} {osl_StrideError ccs_StrideError csl_StrideError : Array (Option Value)} {ln_StrideError : Nat} {p1_StrideError p2_StrideError q1_StrideError q2_StrideError q3_StrideError q4_StrideError : Pos} {vs_StrideError : Array Value} {tf_StrideError : Tok}
    (aC_StrideError : PySem.W.nsIn K mainGlobals "StrideError" = some (some (.ref C_StrideError)))
    (xC_StrideError : K.lookup C_StrideError = some (excClassObj n_StrideError q_StrideError C_StrideError N_StrideError bs_StrideError PXE.veBm true sn_StrideError sub_StrideError ab_StrideError col_StrideError dd_StrideError k0_StrideError k1_StrideError k2_StrideError k3_StrideError k5_StrideError "ValueError.__new__"))
    (sa_StrideError : PySem.W.findIn K (.ref C_StrideError) "__setattr__" = some (some (.builtin "object.__setattr__"))) (ga_StrideError : PySem.W.findIn K (.ref C_StrideError) "__getattribute__" = some (some (.builtin "BaseException.__getattribute__"))) (gg_StrideError : PySem.W.findIn K (.ref C_StrideError) "__getattr__" = some none) (nv_StrideError : PySem.W.findIn K (.ref C_StrideError) "value" = some none)
    (iC_StrideError : PySem.W.findIn K (.ref C_StrideError) "__init__" = some (some (.ref fI_StrideError))) (tC_StrideError : PySem.W.typeIn K (.ref fI_StrideError) = some (.type "function"))
    (l1_StrideError : K.lookup fI_StrideError = some ⟨oc_StrideError, od_StrideError, .func (PySem.W.ksFn "__init__" "StrideError.__init__" (PXE.xA p1_StrideError p2_StrideError) (PXE.xB ln_StrideError q1_StrideError q2_StrideError q3_StrideError q4_StrideError) PXE.xS .none .none doc_StrideError pm_StrideError an_StrideError (.ref cda_StrideError) ct_StrideError cc_StrideError), osl_StrideError⟩) (c1_StrideError : PySem.W.codeIn K (.ref cda_StrideError) "StrideError.__init__" = true)
    (lc_StrideError : K.lookup cda_StrideError = some ⟨ccl_StrideError, cdd_StrideError, .fields vs_StrideError, ccs_StrideError⟩) (hv_StrideError : vs_StrideError[2]? = some (.str file_StrideError tf_StrideError)) (hf_StrideError : ((l.prog.main.file : Str) == file_StrideError) = true) (lcc_StrideError : K.lookup cc_StrideError = some ⟨cl_StrideError, cld_StrideError, .cell (some (.ref C_StrideError)), csl_StrideError⟩) (hln_StrideError : ln_StrideError = 5 ∨ ln_StrideError = 8)
    (kC_StrideError : PySem.W.keepIn K (.ref C_StrideError) = true) (eC_StrideError : PySem.W.subIn K (.ref C_StrideError) (.type "BaseException") = some true) (vC_StrideError : PySem.W.subIn K (.ref C_StrideError) (.type "ValueError") = some true) (yC_StrideError : PySem.W.typeIn K (.ref C_StrideError) = some (.type "type")) (hC_StrideError : PySem.W.hasDictIn K C_StrideError = true) (isC_StrideError : PySem.W.isClsIn K C_StrideError = true) (sC_StrideError : PySem.W.subIn K (.ref C_StrideError) (.ref C_StrideError) = some true)
    (ny_StrideError : PySem.W.nsIn K cStatics "thirdparty.any" = some none) (mD_StrideError : PySem.W.mroIn K C_StrideError (.ref C_StrideError) = some true) (zs_StrideError : PySem.W.nsIn K mainGlobals "super" = some none) (tp_StrideError : (l.prog.main.scope.names.lookup ("super" : Str)).isSome = false)
    (xkb : PL.errKB K (PXE.clOf K) = true) :
    ∃ fd : FuncData, (∀ (s : Shared) (v : Value), BindsTo s fd ⟨[v], []⟩ [("script", v)]) ∧ ∀ base : Heap, K.In base → base.Ns mainGlobals mg → FnP l.prog w K mg base (PL.clT [] (PXE.clOf K)) 2 fa fd ["script"] m_law := by
  have e := hfa.symm.trans (PySem.W.mg_of X G a4)
  cases e
  exact ⟨(txt_of (prog := l.prog) (w := w) X G a0 l0 c0 k0 a1 l1 c1 k1 a2 l2 c2 k2 a3 l3 c3 k3 a4 l4 c4 k4 z_ValueError z_abs z_isinstance z_len z_min z_range z_repr aC_InvalidGuard xC_InvalidGuard ne_InvalidGuard sa_InvalidGuard ga_InvalidGuard gg_InvalidGuard nv_InvalidGuard iC_InvalidGuard tC_InvalidGuard l1_InvalidGuard c1_InvalidGuard lc_InvalidGuard hv_InvalidGuard hf_InvalidGuard lcc_InvalidGuard hln_InvalidGuard kC_InvalidGuard eC_InvalidGuard vC_InvalidGuard yC_InvalidGuard hC_InvalidGuard isC_InvalidGuard sC_InvalidGuard ny_InvalidGuard mD_InvalidGuard isD_InvalidGuard zs_InvalidGuard tp_InvalidGuard aC_InvalidLanes xC_InvalidLanes ne_InvalidLanes sa_InvalidLanes ga_InvalidLanes gg_InvalidLanes nv_InvalidLanes iC_InvalidLanes tC_InvalidLanes l1_InvalidLanes c1_InvalidLanes lc_InvalidLanes hv_InvalidLanes hf_InvalidLanes lcc_InvalidLanes hln_InvalidLanes kC_InvalidLanes eC_InvalidLanes vC_InvalidLanes yC_InvalidLanes hC_InvalidLanes isC_InvalidLanes sC_InvalidLanes ny_InvalidLanes mD_InvalidLanes isD_InvalidLanes zs_InvalidLanes tp_InvalidLanes aC_InvalidStatement xC_InvalidStatement ne_InvalidStatement sa_InvalidStatement ga_InvalidStatement gg_InvalidStatement nv_InvalidStatement iC_InvalidStatement tC_InvalidStatement l1_InvalidStatement c1_InvalidStatement lc_InvalidStatement hv_InvalidStatement hf_InvalidStatement lcc_InvalidStatement hln_InvalidStatement kC_InvalidStatement eC_InvalidStatement vC_InvalidStatement yC_InvalidStatement hC_InvalidStatement isC_InvalidStatement sC_InvalidStatement ny_InvalidStatement mD_InvalidStatement isD_InvalidStatement zs_InvalidStatement tp_InvalidStatement aC_InvalidBarrier xC_InvalidBarrier ne_InvalidBarrier sa_InvalidBarrier ga_InvalidBarrier gg_InvalidBarrier nv_InvalidBarrier iC_InvalidBarrier tC_InvalidBarrier l1_InvalidBarrier c1_InvalidBarrier lc_InvalidBarrier hv_InvalidBarrier hf_InvalidBarrier lcc_InvalidBarrier hln_InvalidBarrier kC_InvalidBarrier eC_InvalidBarrier vC_InvalidBarrier yC_InvalidBarrier hC_InvalidBarrier isC_InvalidBarrier sC_InvalidBarrier ny_InvalidBarrier mD_InvalidBarrier isD_InvalidBarrier zs_InvalidBarrier tp_InvalidBarrier aC_InvalidAccess xC_InvalidAccess ne_InvalidAccess sa_InvalidAccess ga_InvalidAccess gg_InvalidAccess nv_InvalidAccess iC_InvalidAccess tC_InvalidAccess l1_InvalidAccess c1_InvalidAccess lc_InvalidAccess hv_InvalidAccess hf_InvalidAccess lcc_InvalidAccess hln_InvalidAccess kC_InvalidAccess eC_InvalidAccess vC_InvalidAccess yC_InvalidAccess hC_InvalidAccess isC_InvalidAccess sC_InvalidAccess ny_InvalidAccess mD_InvalidAccess isD_InvalidAccess zs_InvalidAccess tp_InvalidAccess aC_InvalidNumber xC_InvalidNumber ne_InvalidNumber sa_InvalidNumber ga_InvalidNumber gg_InvalidNumber nv_InvalidNumber iC_InvalidNumber tC_InvalidNumber l1_InvalidNumber c1_InvalidNumber lc_InvalidNumber hv_InvalidNumber hf_InvalidNumber lcc_InvalidNumber hln_InvalidNumber kC_InvalidNumber eC_InvalidNumber vC_InvalidNumber yC_InvalidNumber hC_InvalidNumber isC_InvalidNumber sC_InvalidNumber ny_InvalidNumber mD_InvalidNumber isD_InvalidNumber zs_InvalidNumber tp_InvalidNumber aC_InvalidArray xC_InvalidArray ne_InvalidArray sa_InvalidArray ga_InvalidArray gg_InvalidArray nv_InvalidArray iC_InvalidArray tC_InvalidArray l1_InvalidArray c1_InvalidArray lc_InvalidArray hv_InvalidArray hf_InvalidArray lcc_InvalidArray hln_InvalidArray kC_InvalidArray eC_InvalidArray vC_InvalidArray yC_InvalidArray hC_InvalidArray isC_InvalidArray sC_InvalidArray ny_InvalidArray mD_InvalidArray isD_InvalidArray zs_InvalidArray tp_InvalidArray aC_InvalidSchedule xC_InvalidSchedule ne_InvalidSchedule sa_InvalidSchedule ga_InvalidSchedule gg_InvalidSchedule nv_InvalidSchedule iC_InvalidSchedule tC_InvalidSchedule l1_InvalidSchedule c1_InvalidSchedule lc_InvalidSchedule hv_InvalidSchedule hf_InvalidSchedule lcc_InvalidSchedule hln_InvalidSchedule kC_InvalidSchedule eC_InvalidSchedule vC_InvalidSchedule yC_InvalidSchedule hC_InvalidSchedule isC_InvalidSchedule sC_InvalidSchedule ny_InvalidSchedule mD_InvalidSchedule isD_InvalidSchedule zs_InvalidSchedule tp_InvalidSchedule aC_UnlikeLanes xC_UnlikeLanes ne_UnlikeLanes sa_UnlikeLanes ga_UnlikeLanes gg_UnlikeLanes nv_UnlikeLanes iC_UnlikeLanes tC_UnlikeLanes l1_UnlikeLanes c1_UnlikeLanes lc_UnlikeLanes hv_UnlikeLanes hf_UnlikeLanes lcc_UnlikeLanes hln_UnlikeLanes kC_UnlikeLanes eC_UnlikeLanes vC_UnlikeLanes yC_UnlikeLanes hC_UnlikeLanes isC_UnlikeLanes sC_UnlikeLanes ny_UnlikeLanes mD_UnlikeLanes isD_UnlikeLanes zs_UnlikeLanes tp_UnlikeLanes aC_Racing xC_Racing ne_Racing sa_Racing ga_Racing gg_Racing nv_Racing iC_Racing tC_Racing l1_Racing c1_Racing lc_Racing hv_Racing hf_Racing lcc_Racing hln_Racing kC_Racing eC_Racing vC_Racing yC_Racing hC_Racing isC_Racing sC_Racing ny_Racing mD_Racing isD_Racing zs_Racing tp_Racing aC_NotPlain xC_NotPlain ne_NotPlain sa_NotPlain ga_NotPlain gg_NotPlain nv_NotPlain iC_NotPlain tC_NotPlain l1_NotPlain c1_NotPlain lc_NotPlain hv_NotPlain hf_NotPlain lcc_NotPlain hln_NotPlain kC_NotPlain eC_NotPlain vC_NotPlain yC_NotPlain hC_NotPlain isC_NotPlain sC_NotPlain ny_NotPlain mD_NotPlain isD_NotPlain zs_NotPlain tp_NotPlain aC_NothingToUndo xC_NothingToUndo ne_NothingToUndo sa_NothingToUndo ga_NothingToUndo gg_NothingToUndo nv_NothingToUndo iC_NothingToUndo tC_NothingToUndo l1_NothingToUndo c1_NothingToUndo lc_NothingToUndo hv_NothingToUndo hf_NothingToUndo lcc_NothingToUndo hln_NothingToUndo kC_NothingToUndo eC_NothingToUndo vC_NothingToUndo yC_NothingToUndo hC_NothingToUndo isC_NothingToUndo sC_NothingToUndo ny_NothingToUndo mD_NothingToUndo isD_NothingToUndo zs_NothingToUndo tp_NothingToUndo aC_Unreadable xC_Unreadable ne_Unreadable sa_Unreadable ga_Unreadable gg_Unreadable nv_Unreadable iC_Unreadable tC_Unreadable l1_Unreadable c1_Unreadable lc_Unreadable hv_Unreadable hf_Unreadable lcc_Unreadable hln_Unreadable kC_Unreadable eC_Unreadable vC_Unreadable yC_Unreadable hC_Unreadable isC_Unreadable sC_Unreadable ny_Unreadable mD_Unreadable isD_Unreadable zs_Unreadable tp_Unreadable aC_StrideError xC_StrideError sa_StrideError ga_StrideError gg_StrideError nv_StrideError iC_StrideError tC_StrideError l1_StrideError c1_StrideError lc_StrideError hv_StrideError hf_StrideError lcc_StrideError hln_StrideError kC_StrideError eC_StrideError vC_StrideError yC_StrideError hC_StrideError isC_StrideError sC_StrideError ny_StrideError mD_StrideError zs_StrideError tp_StrideError xkb).fd_law, fun s v => .of_eq rfl, fun base _ _ => ok_law (w := w) (txt_of (prog := l.prog) (w := w) X G a0 l0 c0 k0 a1 l1 c1 k1 a2 l2 c2 k2 a3 l3 c3 k3 a4 l4 c4 k4 z_ValueError z_abs z_isinstance z_len z_min z_range z_repr aC_InvalidGuard xC_InvalidGuard ne_InvalidGuard sa_InvalidGuard ga_InvalidGuard gg_InvalidGuard nv_InvalidGuard iC_InvalidGuard tC_InvalidGuard l1_InvalidGuard c1_InvalidGuard lc_InvalidGuard hv_InvalidGuard hf_InvalidGuard lcc_InvalidGuard hln_InvalidGuard kC_InvalidGuard eC_InvalidGuard vC_InvalidGuard yC_InvalidGuard hC_InvalidGuard isC_InvalidGuard sC_InvalidGuard ny_InvalidGuard mD_InvalidGuard isD_InvalidGuard zs_InvalidGuard tp_InvalidGuard aC_InvalidLanes xC_InvalidLanes ne_InvalidLanes sa_InvalidLanes ga_InvalidLanes gg_InvalidLanes nv_InvalidLanes iC_InvalidLanes tC_InvalidLanes l1_InvalidLanes c1_InvalidLanes lc_InvalidLanes hv_InvalidLanes hf_InvalidLanes lcc_InvalidLanes hln_InvalidLanes kC_InvalidLanes eC_InvalidLanes vC_InvalidLanes yC_InvalidLanes hC_InvalidLanes isC_InvalidLanes sC_InvalidLanes ny_InvalidLanes mD_InvalidLanes isD_InvalidLanes zs_InvalidLanes tp_InvalidLanes aC_InvalidStatement xC_InvalidStatement ne_InvalidStatement sa_InvalidStatement ga_InvalidStatement gg_InvalidStatement nv_InvalidStatement iC_InvalidStatement tC_InvalidStatement l1_InvalidStatement c1_InvalidStatement lc_InvalidStatement hv_InvalidStatement hf_InvalidStatement lcc_InvalidStatement hln_InvalidStatement kC_InvalidStatement eC_InvalidStatement vC_InvalidStatement yC_InvalidStatement hC_InvalidStatement isC_InvalidStatement sC_InvalidStatement ny_InvalidStatement mD_InvalidStatement isD_InvalidStatement zs_InvalidStatement tp_InvalidStatement aC_InvalidBarrier xC_InvalidBarrier ne_InvalidBarrier sa_InvalidBarrier ga_InvalidBarrier gg_InvalidBarrier nv_InvalidBarrier iC_InvalidBarrier tC_InvalidBarrier l1_InvalidBarrier c1_InvalidBarrier lc_InvalidBarrier hv_InvalidBarrier hf_InvalidBarrier lcc_InvalidBarrier hln_InvalidBarrier kC_InvalidBarrier eC_InvalidBarrier vC_InvalidBarrier yC_InvalidBarrier hC_InvalidBarrier isC_InvalidBarrier sC_InvalidBarrier ny_InvalidBarrier mD_InvalidBarrier isD_InvalidBarrier zs_InvalidBarrier tp_InvalidBarrier aC_InvalidAccess xC_InvalidAccess ne_InvalidAccess sa_InvalidAccess ga_InvalidAccess gg_InvalidAccess nv_InvalidAccess iC_InvalidAccess tC_InvalidAccess l1_InvalidAccess c1_InvalidAccess lc_InvalidAccess hv_InvalidAccess hf_InvalidAccess lcc_InvalidAccess hln_InvalidAccess kC_InvalidAccess eC_InvalidAccess vC_InvalidAccess yC_InvalidAccess hC_InvalidAccess isC_InvalidAccess sC_InvalidAccess ny_InvalidAccess mD_InvalidAccess isD_InvalidAccess zs_InvalidAccess tp_InvalidAccess aC_InvalidNumber xC_InvalidNumber ne_InvalidNumber sa_InvalidNumber ga_InvalidNumber gg_InvalidNumber nv_InvalidNumber iC_InvalidNumber tC_InvalidNumber l1_InvalidNumber c1_InvalidNumber lc_InvalidNumber hv_InvalidNumber hf_InvalidNumber lcc_InvalidNumber hln_InvalidNumber kC_InvalidNumber eC_InvalidNumber vC_InvalidNumber yC_InvalidNumber hC_InvalidNumber isC_InvalidNumber sC_InvalidNumber ny_InvalidNumber mD_InvalidNumber isD_InvalidNumber zs_InvalidNumber tp_InvalidNumber aC_InvalidArray xC_InvalidArray ne_InvalidArray sa_InvalidArray ga_InvalidArray gg_InvalidArray nv_InvalidArray iC_InvalidArray tC_InvalidArray l1_InvalidArray c1_InvalidArray lc_InvalidArray hv_InvalidArray hf_InvalidArray lcc_InvalidArray hln_InvalidArray kC_InvalidArray eC_InvalidArray vC_InvalidArray yC_InvalidArray hC_InvalidArray isC_InvalidArray sC_InvalidArray ny_InvalidArray mD_InvalidArray isD_InvalidArray zs_InvalidArray tp_InvalidArray aC_InvalidSchedule xC_InvalidSchedule ne_InvalidSchedule sa_InvalidSchedule ga_InvalidSchedule gg_InvalidSchedule nv_InvalidSchedule iC_InvalidSchedule tC_InvalidSchedule l1_InvalidSchedule c1_InvalidSchedule lc_InvalidSchedule hv_InvalidSchedule hf_InvalidSchedule lcc_InvalidSchedule hln_InvalidSchedule kC_InvalidSchedule eC_InvalidSchedule vC_InvalidSchedule yC_InvalidSchedule hC_InvalidSchedule isC_InvalidSchedule sC_InvalidSchedule ny_InvalidSchedule mD_InvalidSchedule isD_InvalidSchedule zs_InvalidSchedule tp_InvalidSchedule aC_UnlikeLanes xC_UnlikeLanes ne_UnlikeLanes sa_UnlikeLanes ga_UnlikeLanes gg_UnlikeLanes nv_UnlikeLanes iC_UnlikeLanes tC_UnlikeLanes l1_UnlikeLanes c1_UnlikeLanes lc_UnlikeLanes hv_UnlikeLanes hf_UnlikeLanes lcc_UnlikeLanes hln_UnlikeLanes kC_UnlikeLanes eC_UnlikeLanes vC_UnlikeLanes yC_UnlikeLanes hC_UnlikeLanes isC_UnlikeLanes sC_UnlikeLanes ny_UnlikeLanes mD_UnlikeLanes isD_UnlikeLanes zs_UnlikeLanes tp_UnlikeLanes aC_Racing xC_Racing ne_Racing sa_Racing ga_Racing gg_Racing nv_Racing iC_Racing tC_Racing l1_Racing c1_Racing lc_Racing hv_Racing hf_Racing lcc_Racing hln_Racing kC_Racing eC_Racing vC_Racing yC_Racing hC_Racing isC_Racing sC_Racing ny_Racing mD_Racing isD_Racing zs_Racing tp_Racing aC_NotPlain xC_NotPlain ne_NotPlain sa_NotPlain ga_NotPlain gg_NotPlain nv_NotPlain iC_NotPlain tC_NotPlain l1_NotPlain c1_NotPlain lc_NotPlain hv_NotPlain hf_NotPlain lcc_NotPlain hln_NotPlain kC_NotPlain eC_NotPlain vC_NotPlain yC_NotPlain hC_NotPlain isC_NotPlain sC_NotPlain ny_NotPlain mD_NotPlain isD_NotPlain zs_NotPlain tp_NotPlain aC_NothingToUndo xC_NothingToUndo ne_NothingToUndo sa_NothingToUndo ga_NothingToUndo gg_NothingToUndo nv_NothingToUndo iC_NothingToUndo tC_NothingToUndo l1_NothingToUndo c1_NothingToUndo lc_NothingToUndo hv_NothingToUndo hf_NothingToUndo lcc_NothingToUndo hln_NothingToUndo kC_NothingToUndo eC_NothingToUndo vC_NothingToUndo yC_NothingToUndo hC_NothingToUndo isC_NothingToUndo sC_NothingToUndo ny_NothingToUndo mD_NothingToUndo isD_NothingToUndo zs_NothingToUndo tp_NothingToUndo aC_Unreadable xC_Unreadable ne_Unreadable sa_Unreadable ga_Unreadable gg_Unreadable nv_Unreadable iC_Unreadable tC_Unreadable l1_Unreadable c1_Unreadable lc_Unreadable hv_Unreadable hf_Unreadable lcc_Unreadable hln_Unreadable kC_Unreadable eC_Unreadable vC_Unreadable yC_Unreadable hC_Unreadable isC_Unreadable sC_Unreadable ny_Unreadable mD_Unreadable isD_Unreadable zs_Unreadable tp_Unreadable aC_StrideError xC_StrideError sa_StrideError ga_StrideError gg_StrideError nv_StrideError iC_StrideError tC_StrideError l1_StrideError c1_StrideError lc_StrideError hv_StrideError hf_StrideError lcc_StrideError hln_StrideError kC_StrideError eC_StrideError vC_StrideError yC_StrideError hC_StrideError isC_StrideError sC_StrideError ny_StrideError mD_StrideError zs_StrideError tp_StrideError xkb)⟩
end K80
/-! K80_B: the bag. -/
namespace K80
open PySem PySem.Spec PyProof.Rows L2 PL PN PM
theorem cmp_t {op : PV → PV → Option PV} {st : Stt} {fa fb : Stt → Res PV} {p q : PV} {z : Bool} (ha : fa st = .ok p st) (hb : fb st = .ok q st) (h : op p q = some (.bl z)) : tOf (eBin op fa fb) st = .ok z st := by
  unfold tOf
  rw [bin_at ha hb h]
  rfl
theorem for_in {st s1 : Stt} {fi : Stt → Res (List PV)} {a : PV → Stt → Option Stt} {b : Stt → Fl} {l : List PV} (hi : fi st = .ok l s1) : gFor fi a b st = forL a b l s1 := by
  unfold gFor
  rw [hi]
  rfl
noncomputable def l__law_bag_1b : PV → Stt → Option Stt := (aName 3)
noncomputable def l__law_bag_1c_s1 : Stt → Fl := (gAsg (eBin pMod (eBin pAdd (eBin pMul (eVar 1) (eC (.int 1000003))) (eVar 3)) (eC (.int 2305843009213693951))) (aName 1))
noncomputable def l__law_bag_1c_s2 : Stt → Fl := (gIf (tOf (eBin pGe (eCallB pAbs (aCons (eVar 3) aNil)) (eBin pPow (eC (.int 10)) (eC (.int 18))))) (gSeq (gApp 2 (eCallB pAbs (aCons (eVar 3) aNil))) gNop) gNop)
noncomputable def l__law_bag_1c : Stt → Fl := (gSeq l__law_bag_1c_s1 (gSeq l__law_bag_1c_s2 gNop))
noncomputable def q__law_bag_1 : Stt → Fl := (gParO 1 2 (eC (.int 11)) (oLst aNil))
noncomputable def q__law_bag_2 : Stt → Fl := (gFor (iAny (eVar 0)) l__law_bag_1b l__law_bag_1c)
noncomputable def q__law_bag_3 : Stt → Fl := (gRetO (oBag 2 (aCons (eC (.int 0)) (aCons (eC (.int 0)) (aCons (eVar 1) aNil)))))
theorem g__law_bag_eq : g__law_bag = (gSeq q__law_bag_1 (gSeq q__law_bag_2 (gSeq q__law_bag_3 gNop))) := rfl
noncomputable def q__law_draw_1 : Stt → Fl := (gIf (tAn (tOf (eBin pLt (eBag 0 "left") (eVar 1))) (tOf (eBin pGt (eBagLen 0) (eC (.int 0))))) (gSeq (gBagSet 0 "left" (eBagPop 0)) gNop) gNop)
noncomputable def q__law_draw_2_t1 : Stt → Fl := (gAsg (eBin pMod (eBag 0 "left") (eVar 1)) (aName 2))
noncomputable def q__law_draw_2_t2 : Stt → Fl := (gBagSet 0 "left" (eBin pFdiv (eBag 0 "left") (eVar 1)))
noncomputable def q__law_draw_2_t3 : Stt → Fl := (gRet (eVar 2))
noncomputable def q__law_draw_2 : Stt → Fl := (gIf (tOf (eBin pGe (eBag 0 "left") (eVar 1))) (gSeq q__law_draw_2_t1 (gSeq q__law_draw_2_t2 (gSeq q__law_draw_2_t3 gNop))) gNop)
noncomputable def q__law_draw_3 : Stt → Fl := (gBagAug 0 "turn" (eC (.int 1)))
noncomputable def q__law_draw_4 : Stt → Fl := (gAsg (eBag 0 "turn") (aName 3))
noncomputable def q__law_draw_5 : Stt → Fl := (gAsg (eBin pAdd (eBin pMul (eBin pAdd (eBag 0 "blend") (eBin pMul (eC (.int 17)) (eVar 3))) (eBin pPow (eBin pAdd (eVar 3) (eC (.int 29))) (eC (.int 2)))) (eBin pMul (eC (.int 7919)) (eVar 3))) (aName 4))
noncomputable def q__law_draw_6 : Stt → Fl := (gRet (eBin pMod (eBin pFdiv (eBin pMod (eBin pPow (eBin pMod (eVar 4) (eC (.int 2305843009213693951))) (eC (.int 3))) (eBin pAdd (eBin pPow (eC (.int 10)) (eC (.int 18))) (eC (.int 9)))) (eC (.int 64))) (eVar 1)))
theorem g__law_draw_eq : g__law_draw = (gSeq q__law_draw_1 (gSeq q__law_draw_2 (gSeq q__law_draw_3 (gSeq q__law_draw_4 (gSeq q__law_draw_5 (gSeq q__law_draw_6 gNop)))))) := rfl
/-! ### the bag -/
theorem bk_left {l t b : Int} : bagK "left" l t b = some l := if_pos rfl
theorem bk_turn {l t b : Int} : bagK "turn" l t b = some t := by unfold bagK; rw [if_neg (by decide +kernel), if_pos rfl]
theorem bk_blend {l t b : Int} : bagK "blend" l t b = some b := by unfold bagK; rw [if_neg (by decide +kernel), if_neg (by decide +kernel), if_pos rfl]
theorem bs_left {n : Int} {g : List Int} {l t b : Int} : bagS "left" n g l t b = some (.bag g n t b) := if_pos rfl
theorem bs_turn {n : Int} {g : List Int} {l t b : Int} : bagS "turn" n g l t b = some (.bag g l n b) := by unfold bagS; rw [if_neg (by decide +kernel), if_pos rfl]
theorem bag_at {st : Stt} {i : Nat} {k : MKey} {g : List Int} {l t b n : Int} {nm : Str} (h : getM st i = some (k, .bag g l t b)) (h2 : bagK nm l t b = some n) : eBag i nm st = .ok (.int n) st := by
  unfold eBag
  rw [h]
  simp only [h2, Option.map_some, Res.opt_some]
theorem bagLen_at {st : Stt} {i : Nat} {k : MKey} {g : List Int} {l t b : Int} (h : getM st i = some (k, .bag g l t b)) : eBagLen i st = .ok (.int g.length) st := by
  unfold eBagLen
  rw [h]
theorem bagPop_at {st : Stt} {i : Nat} {k : MKey} {g : List Int} {x l t b : Int} (h : getM st i = some (k, .bag (x :: g) l t b)) : eBagPop i st = .ok (.int x) (setK st k (.bag g l t b)) := by
  unfold eBagPop
  rw [h]
theorem bagSet_at {st s1 s2 : Stt} {i : Nat} {k : MKey} {g : List Int} {l t b n : Int} {nm : Str} {m : MO} {fe : Stt → Res PV} (he : fe st = .ok (.int n) s1) (h : getM s1 i = some (k, .bag g l t b)) (h2 : bagS nm n g l t b = some m) (hs : setK s1 k m = s2) : gBagSet i nm fe st = .nx s2 := by
  unfold gBagSet
  rw [he]
  simp only [Res.fl, h, h2, hs]
theorem bagAug_at {st s2 : Stt} {i : Nat} {k : MKey} {g : List Int} {l t b n n2 : Int} {nm : Str} {m : MO} {fe : Stt → Res PV} (h : getM st i = some (k, .bag g l t b)) (h1 : bagK nm l t b = some n) (he : fe st = .ok (.int n2) st) (h2 : bagS nm (n + n2) g l t b = some m) (hs : setK st k m = s2) : gBagAug i nm fe st = .nx s2 := by
  unfold gBagAug
  rw [h]
  simp only [h1, he, Res.fl, h, h2, hs]
def BSrc (n : Nat) (m : MO) : Prop := ∃ (g : List Int) (l t b : Int), m = .bag g l t b ∧ (∀ x ∈ g, 0 ≤ x) ∧ 0 ≤ l ∧ 0 ≤ t ∧ t ≤ n ∧ 0 ≤ b ∧ b < 2305843009213693951
theorem BSrc.mono {n k : Nat} {m : MO} (h : BSrc n m) (hk : n ≤ k) : BSrc k m := by
  obtain ⟨g, l, t, b, h1, h2, h3, h4, h5, h6, h7⟩ := h
  exact ⟨g, l, t, b, h1, h2, h3, h4, by omega, h6, h7⟩
theorem okPowN {x k : Int} {n : Nat} (h : x.natAbs < 2 ^ n) (h0 : 0 < n) (k0 : 0 ≤ k) (hn : n * k.toNat ≤ 1000000) : okPow x k = true := by
  unfold okPow
  have := log_lt h h0
  refine decide_eq_true ⟨k0, Nat.le_trans (Nat.mul_le_mul_right _ (by omega)) hn⟩
theorem modc {x y : Int} (h : 0 < y) : pMod (.int x) (.int y) = some (.int (x % y)) := by
  show (if y ≠ 0 then some (PV.int (Int.fmod x y)) else none) = _
  rw [if_pos (by omega), Int.fmod_eq_emod_of_nonneg _ (by omega)]
theorem fdc {x y : Int} (h : 0 < y) (hd : okDiv y = true) : pFdiv (.int x) (.int y) = some (.int (x / y)) := by
  show (if okDiv y = true then some (PV.int (Int.fdiv x y)) else none) = _
  rw [if_pos hd, Int.fdiv_eq_ediv_of_nonneg _ (by omega)]
theorem pwc {k v : Int} (h : okPow 10 k = true) (e : (10 : Int) ^ k.toNat = v) : pPow (.int 10) (.int k) = some (.int v) := by
  show (if okPow 10 k = true then some (PV.int ((10 : Int) ^ k.toNat)) else none) = _
  rw [if_pos h, e]
abbrev dS (many : Int) (a b c : Option SV) (m : MO) : Stt := ⟨[some (.bor 0), some (.val (.int many)), a, b, c], [m]⟩
/-- the first part of a draw: a new great number -/
theorem draw_1 {g : List Int} {l t b many : Int} (hg : ∀ x ∈ g, 0 ≤ x) (hl : 0 ≤ l) : ∃ g' l', (∀ x ∈ g', 0 ≤ x) ∧ 0 ≤ l' ∧ q__law_draw_1 (dS many none none none (.bag g l t b)) = .nx (dS many none none none (.bag g' l' t b)) := by
  have c1 := lt_t (st := dS many none none none (.bag g l t b)) (fa := eBag 0 "left") (fb := eVar 1) (i := l) (j := many) (bag_at (k := .inr 0) rfl bk_left) rfl
  have c2 := gt_t (st := dS many none none none (.bag g l t b)) (fa := eBagLen 0) (fb := eC (.int 0)) (i := (g.length : Nat)) (j := 0) (bagLen_at (k := .inr 0) (l := l) (t := t) (b := b) rfl) rfl
  have c := an_t c1 c2
  cases h : (decide (l < many) && decide (((g.length : Nat) : Int) > 0))
  · rw [h] at c
    exact ⟨g, l, hg, hl, if_no c⟩
  · rw [h] at c
    rw [Bool.and_eq_true, decide_eq_true_eq, decide_eq_true_eq] at h
    cases g with
    | nil =>
      have := h.2
      simp at this
    | cons x g =>
      refine ⟨g, x, fun y hy => hg y (List.mem_cons_of_mem _ hy), hg x List.mem_cons_self, ?_⟩
      exact (if_yes c).trans (one_nx (bagSet_at (k := .inr 0) (bagPop_at (k := .inr 0) rfl) rfl bs_left rfl))
theorem e_draw {n : Nat} {m : MO} (h : BSrc n m) (hn : n < 2 ^ 60) (many : Int) (h0 : 0 < many) (hb : many.natAbs < 2 ^ 8000) :
    ∃ d m', m__law_draw [.bor 0, .val (.int many)] [m] = .ok (.int d) [m'] ∧ 0 ≤ d ∧ d < many ∧ BSrc (n + 1) m' := by
  obtain ⟨g0, l0, t, b, rfl, hg0, hl0, ht, htn, hb0, hb1⟩ := h
  obtain ⟨g, l, hg, hl, t1⟩ := draw_1 (t := t) (b := b) (many := many) hg0 hl0
  have hd : okDiv many = true := okDiv_of (by omega) hb (by decide) (by decide)
  have c2 := cmp_t (op := pGe) (z := decide (many ≤ l)) (st := dS many none none none (.bag g l t b)) (fa := eBag 0 "left") (fb := eVar 1) (p := .int l) (q := .int many) (bag_at (k := .inr 0) rfl bk_left) rfl rfl
  have md : ∀ x : Int, pMod (.int x) (.int many) = some (.int (x % many)) := fun x => modc h0
  by_cases hm : many ≤ l
  · rw [decide_eq_true hm] at c2
    refine ⟨l % many, .bag g (l / many) t b, ?_, Int.emod_nonneg _ (by omega), Int.emod_lt_of_pos _ h0, g, l / many, t, b, rfl, hg, Int.ediv_nonneg hl (by omega), ht, by omega, hb0, hb1⟩
    have a1 : q__law_draw_2_t1 (dS many none none none (.bag g l t b)) = .nx (dS many (some (.val (.int (l % many)))) none none (.bag g l t b)) := asg_at (bin_at (p := .int l) (q := .int many) (bag_at (k := .inr 0) rfl bk_left) rfl (md l)) rfl
    have a2 : q__law_draw_2_t2 (dS many (some (.val (.int (l % many)))) none none (.bag g l t b)) = .nx (dS many (some (.val (.int (l % many)))) none none (.bag g (l / many) t b)) := bagSet_at (k := .inr 0) (g := g) (l := l) (t := t) (b := b) (n := l / many) (s1 := dS many (some (.val (.int (l % many)))) none none (.bag g l t b)) (bin_at (p := .int l) (q := .int many) (bag_at (k := .inr 0) rfl bk_left) rfl (fdc h0 hd)) rfl bs_left rfl
    have a3 : q__law_draw_2_t3 (dS many (some (.val (.int (l % many)))) none none (.bag g (l / many) t b)) = .rt (.int (l % many)) (dS many (some (.val (.int (l % many)))) none none (.bag g (l / many) t b)) := ret_at rfl
    have t2 : q__law_draw_2 (dS many none none none (.bag g l t b)) = .rt (.int (l % many)) (dS many (some (.val (.int (l % many)))) none none (.bag g (l / many) t b)) := (if_yes c2).trans ((seq_nx a1).trans ((seq_nx a2).trans (seq_rt a3)))
    unfold m__law_draw
    rw [g__law_draw_eq]
    simp only [mOf, start0, List.map_cons, List.map_nil, List.length_cons, List.length_nil, Nat.reduceAdd, Nat.reduceSub, List.replicate, List.cons_append, List.nil_append]
    rw [seq_nx t1, seq_rt t2]
    rfl
  · rw [decide_eq_false hm] at c2
    have t2 := if_no (g := gSeq q__law_draw_2_t1 (gSeq q__law_draw_2_t2 (gSeq q__law_draw_2_t3 gNop))) c2
    have t3 : q__law_draw_3 (dS many none none none (.bag g l t b)) = .nx (dS many none none none (.bag g l (t + 1) b)) := bagAug_at (k := .inr 0) rfl bk_turn rfl bs_turn rfl
    have t4 : q__law_draw_4 (dS many none none none (.bag g l (t + 1) b)) = .nx (dS many none (some (.val (.int (t + 1)))) none (.bag g l (t + 1) b)) := asg_at (bag_at (k := .inr 0) rfl bk_turn) rfl
    have m1 : pMul (.int 17) (.int (t + 1)) = some (.int (17 * (t + 1))) := if_pos (okMul_of (a := 10) (b := 70) (by decide) (Nat.lt_of_le_of_lt (m := 2 ^ 60) (by omega) (by decide)) (by decide) (by decide) (by decide))
    have m2 : pMul (.int 7919) (.int (t + 1)) = some (.int (7919 * (t + 1))) := if_pos (okMul_of (a := 20) (b := 70) (by decide) (Nat.lt_of_le_of_lt (m := 2 ^ 60) (by omega) (by decide)) (by decide) (by decide) (by decide))
    have p1 : pPow (.int (t + 1 + 29)) (.int 2) = some (.int ((t + 1 + 29) ^ Int.toNat 2)) := if_pos (okPowN (n := 70) (Nat.lt_of_le_of_lt (m := 2 ^ 61) (by omega) (by decide)) (by decide) (by decide) (by decide))
    have z2 : (t + 1 + 29) ^ Int.toNat 2 = (t + 1 + 29) * (t + 1 + 29) := by
      show (t + 1 + 29) ^ 2 = _
      rw [Int.pow_succ, Int.pow_succ, Int.pow_zero, Int.one_mul]
    have sq : ((t + 1 + 29) ^ Int.toNat 2).natAbs < 2 ^ 200 := by
      rw [z2, Int.natAbs_mul]
      exact Nat.lt_of_le_of_lt (Nat.mul_le_mul (show (t + 1 + 29).natAbs ≤ 2 ^ 61 by omega) (show (t + 1 + 29).natAbs ≤ 2 ^ 61 by omega)) (by decide +kernel)
    have m3 : pMul (.int (b + 17 * (t + 1))) (.int ((t + 1 + 29) ^ Int.toNat 2)) = some (.int ((b + 17 * (t + 1)) * (t + 1 + 29) ^ Int.toNat 2)) := if_pos (okMul_of (a := 80) (b := 200) (Nat.lt_of_le_of_lt (m := 2 ^ 70) (by omega) (by decide)) sq (by decide) (by decide) (by decide))
    obtain ⟨mixed, hmx⟩ : ∃ mixed, mixed = (b + 17 * (t + 1)) * (t + 1 + 29) ^ Int.toNat 2 + 7919 * (t + 1) := ⟨_, rfl⟩
    have t5 : q__law_draw_5 (dS many none (some (.val (.int (t + 1)))) none (.bag g l (t + 1) b)) = .nx (dS many none (some (.val (.int (t + 1)))) (some (.val (.int mixed))) (.bag g l (t + 1) b)) := by
      rw [hmx]
      exact asg_at (bin_at (p := .int ((b + 17 * (t + 1)) * (t + 1 + 29) ^ Int.toNat 2)) (q := .int (7919 * (t + 1))) (bin_at (p := .int (b + 17 * (t + 1))) (q := .int ((t + 1 + 29) ^ Int.toNat 2)) (bin_at (p := .int b) (q := .int (17 * (t + 1))) (bag_at (k := .inr 0) rfl bk_blend) (bin_at (p := .int 17) (q := .int (t + 1)) rfl rfl m1) rfl) (bin_at (p := .int (t + 1 + 29)) (q := .int 2) (bin_at (p := .int (t + 1)) (q := .int 29) rfl rfl rfl) rfl p1) m3) (bin_at (p := .int 7919) (q := .int (t + 1)) rfl rfl m2) rfl) rfl
    obtain ⟨u, hu⟩ : ∃ u, u = mixed % 2305843009213693951 := ⟨_, rfl⟩
    have u0 : 0 ≤ u ∧ u < 2305843009213693951 := by rw [hu]; exact ⟨Int.emod_nonneg _ (by decide), Int.emod_lt_of_pos _ (by decide)⟩
    have mu : pMod (.int mixed) (.int 2305843009213693951) = some (.int u) := by rw [hu]; exact modc (by decide)
    have p2 : pPow (.int u) (.int 3) = some (.int (u ^ Int.toNat 3)) := if_pos (okPowN (n := 70) (Nat.lt_of_le_of_lt (m := 2 ^ 61) (by omega) (by decide)) (by decide) (by decide) (by decide))
    have p3 : eBin pAdd (eBin pPow (eC (.int 10)) (eC (.int 18))) (eC (.int 9)) (dS many none (some (.val (.int (t + 1)))) (some (.val (.int mixed))) (.bag g l (t + 1) b)) = .ok (.int 1000000000000000009) (dS many none (some (.val (.int (t + 1)))) (some (.val (.int mixed))) (.bag g l (t + 1) b)) := by
      refine bin_at (p := .int 1000000000000000000) (q := .int 9) (bin_at (p := .int 10) (q := .int 18) rfl rfl ?_) rfl rfl
      exact pwc (by decide +kernel) (by decide +kernel)
    obtain ⟨w, hw⟩ : ∃ w, w = u ^ Int.toNat 3 % 1000000000000000009 := ⟨_, rfl⟩
    have mw : pMod (.int (u ^ Int.toNat 3)) (.int 1000000000000000009) = some (.int w) := by rw [hw]; exact modc (by decide)
    have mq : pFdiv (.int w) (.int 64) = some (.int (w / 64)) := fdc (by decide) (by decide +kernel)
    have t6 : q__law_draw_6 (dS many none (some (.val (.int (t + 1)))) (some (.val (.int mixed))) (.bag g l (t + 1) b)) = .rt (.int (w / 64 % many)) (dS many none (some (.val (.int (t + 1)))) (some (.val (.int mixed))) (.bag g l (t + 1) b)) :=
      ret_at (bin_at (p := .int (w / 64)) (q := .int many) (bin_at (p := .int w) (q := .int 64) (bin_at (p := .int (u ^ Int.toNat 3)) (q := .int 1000000000000000009) (bin_at (p := .int u) (q := .int 3) (bin_at (p := .int mixed) (q := .int 2305843009213693951) rfl rfl mu) rfl p2) p3 mw) rfl mq) rfl (md _))
    refine ⟨w / 64 % many, .bag g l (t + 1) b, ?_, Int.emod_nonneg _ (by omega), Int.emod_lt_of_pos _ h0, g, l, t + 1, b, rfl, hg, hl, by omega, by omega, hb0, hb1⟩
    unfold m__law_draw
    rw [g__law_draw_eq]
    simp only [mOf, start0, List.map_cons, List.map_nil, List.length_cons, List.length_nil, Nat.reduceAdd, Nat.reduceSub, List.replicate, List.cons_append, List.nil_append]
    rw [seq_nx t1]
    have t2' : q__law_draw_2 (dS many none none none (.bag g l t b)) = .nx (dS many none none none (.bag g l t b)) := t2
    rw [seq_nx t2', seq_nx t3, seq_nx t4, seq_nx t5, seq_rt t6]
    rfl
theorem bapp_at {st s2 : Stt} {i : Nat} {fe : Stt → Res PV} {p : PV} {l : List PV} (hg : getM st i = some (.inl i, .lst l)) (he : fe st = .ok p st) (hl : l.length < 16777216) (hs : setK st (.inl i) (.lst (l ++ [p])) = s2) : gApp i fe st = .nx s2 := by
  unfold gApp
  rw [hg]
  simp only [Option.elim_some, he, Res.fl, hg]
  rw [if_pos hl, hs]
theorem e_bag (ns : List Int) (h : ns.length ≤ 63) : ∃ m, m__law_bag [.val (scrOf ns)] [] = .own m [] ∧ BSrc 0 m := by
  obtain ⟨sc, hsc⟩ : ∃ sc, sc = scrOf ns := ⟨_, rfl⟩
  obtain ⟨s2, e2, b, L, w, rfl, b0, b1, hL, _⟩ := forL_inv (a := l__law_bag_1b) (b := l__law_bag_1c) (fun i s => ∃ (b : Int) (L : List Int) (w : Option SV), s = ⟨[some (.val sc), some (.val (.int b)), some (.own (.lst (L.map PV.int))), w], []⟩ ∧ 0 ≤ b ∧ b < 2305843009213693951 ∧ (∀ x ∈ L, 0 ≤ x) ∧ L.length ≤ i) (ns.map PV.int) 0 ⟨[some (.val sc), some (.val (.int 11)), some (.own (.lst [])), none], []⟩ ⟨11, [], none, rfl, by decide, by decide, by simp, by decide⟩ (by
    rintro i p s hp ⟨b, L, w, rfl, b0, b1, hL, hl⟩
    have hi : i < 63 := by
      have := (List.getElem?_eq_some_iff.mp hp).1
      rw [List.length_map] at this
      omega
    obtain ⟨x, hx, rfl⟩ := List.mem_map.mp (List.mem_of_getElem? hp)
    obtain ⟨b2, hb2⟩ : ∃ b2, b2 = (b * 1000003 + x) % 2305843009213693951 := ⟨_, rfl⟩
    have b20 : 0 ≤ b2 ∧ b2 < 2305843009213693951 := by rw [hb2]; exact ⟨Int.emod_nonneg _ (by decide), Int.emod_lt_of_pos _ (by decide)⟩
    have k1 : pMul (.int b) (.int 1000003) = some (.int (b * 1000003)) := if_pos (okMul_of (a := 70) (b := 30) (Nat.lt_of_le_of_lt (m := 2 ^ 61) (by omega) (by decide)) (by decide) (by decide) (by decide) (by decide))
    have s1 : l__law_bag_1c_s1 ⟨[some (.val sc), some (.val (.int b)), some (.own (.lst (L.map PV.int))), some (.val (.int x))], []⟩ = .nx ⟨[some (.val sc), some (.val (.int b2)), some (.own (.lst (L.map PV.int))), some (.val (.int x))], []⟩ := asg_at (bin_at (p := .int (b * 1000003 + x)) (q := .int 2305843009213693951) (bin_at (p := .int (b * 1000003)) (q := .int x) (bin_at (p := .int b) (q := .int 1000003) rfl rfl k1) rfl rfl) rfl (by rw [hb2]; exact modc (by decide))) rfl
    have ab : eCallB pAbs (aCons (eVar 3) aNil) ⟨[some (.val sc), some (.val (.int b2)), some (.own (.lst (L.map PV.int))), some (.val (.int x))], []⟩ = .ok (.int (absI x)) ⟨[some (.val sc), some (.val (.int b2)), some (.own (.lst (L.map PV.int))), some (.val (.int x))], []⟩ := callB1_at (p := .int x) rfl rfl
    have a0 : 0 ≤ absI x := by unfold absI; split <;> omega
    have pw10 : eBin pPow (eC (.int 10)) (eC (.int 18)) ⟨[some (.val sc), some (.val (.int b2)), some (.own (.lst (L.map PV.int))), some (.val (.int x))], []⟩ = .ok (.int 1000000000000000000) ⟨[some (.val sc), some (.val (.int b2)), some (.own (.lst (L.map PV.int))), some (.val (.int x))], []⟩ := bin_at (p := .int 10) (q := .int 18) rfl rfl (pwc (by decide +kernel) (by decide +kernel))
    have c := cmp_t (op := pGe) (z := decide (1000000000000000000 ≤ absI x)) ab pw10 rfl
    by_cases hh : 1000000000000000000 ≤ absI x
    · rw [decide_eq_true hh] at c
      have s2 : l__law_bag_1c_s2 ⟨[some (.val sc), some (.val (.int b2)), some (.own (.lst (L.map PV.int))), some (.val (.int x))], []⟩ = .nx ⟨[some (.val sc), some (.val (.int b2)), some (.own (.lst ((L ++ [absI x]).map PV.int))), some (.val (.int x))], []⟩ := (if_yes c).trans (one_nx (bapp_at rfl ab (by rw [List.length_map]; omega) (by rw [List.map_append]; rfl)))
      refine ⟨_, rfl, _, .inl ((seq_nx s1).trans (one_nx s2)), b2, L ++ [absI x], _, rfl, b20.1, b20.2, fun y hy => ?_, by rw [List.length_append, List.length_singleton]; omega⟩
      rcases List.mem_append.mp hy with hy | hy
      · exact hL y hy
      · rw [List.mem_singleton] at hy; omega
    · rw [decide_eq_false hh] at c
      have s2 : l__law_bag_1c_s2 ⟨[some (.val sc), some (.val (.int b2)), some (.own (.lst (L.map PV.int))), some (.val (.int x))], []⟩ = .nx ⟨[some (.val sc), some (.val (.int b2)), some (.own (.lst (L.map PV.int))), some (.val (.int x))], []⟩ := if_no c
      exact ⟨_, rfl, _, .inl ((seq_nx s1).trans (one_nx s2)), b2, L, _, rfl, b20.1, b20.2, hL, by omega⟩)
  refine ⟨.bag L 0 0 b, ?_, L, 0, 0, b, rfl, hL, by decide, by decide, by decide, b0, b1⟩
  have t1 : q__law_bag_1 ⟨[some (.val sc), none, none, none], []⟩ = .nx ⟨[some (.val sc), some (.val (.int 11)), some (.own (.lst [])), none], []⟩ := rfl
  have t2 : q__law_bag_2 ⟨[some (.val sc), some (.val (.int 11)), some (.own (.lst [])), none], []⟩ = .nx ⟨[some (.val sc), some (.val (.int b)), some (.own (.lst (L.map PV.int))), w], []⟩ := by
    unfold q__law_bag_2
    refine (for_in (s1 := ⟨[some (.val sc), some (.val (.int 11)), some (.own (.lst [])), none], []⟩) (l := ns.map PV.int) ?_).trans e2
    rw [hsc]
    rfl
  have t3 : q__law_bag_3 ⟨[some (.val sc), some (.val (.int b)), some (.own (.lst (L.map PV.int))), w], []⟩ = .rto (.bag L 0 0 b) ⟨[some (.val sc), some (.val (.int b)), none, w], []⟩ := by
    have ai : ∀ ns : List Int, allInt (ns.map PV.int) = some ns := fun ns => by
      induction ns with
      | nil => rfl
      | cons n r ih => simp only [List.map_cons, allInt, ih, Option.map_some]
    unfold q__law_bag_3 gRetO oBag
    simp only [List.getElem?_cons_succ, List.getElem?_cons_zero]
    have e : aCons (eC (.int 0)) (aCons (eC (.int 0)) (aCons (eVar 1) aNil)) ⟨[some (.val sc), some (.val (.int b)), some (.own (.lst (L.map PV.int))), w], []⟩ = .ok [.int 0, .int 0, .int b] ⟨[some (.val sc), some (.val (.int b)), some (.own (.lst (L.map PV.int))), w], []⟩ := rfl
    rw [e]
    simp only [Res.bind_ok, List.getElem?_cons_succ, List.getElem?_cons_zero, ai]
    rfl
  unfold m__law_bag
  rw [g__law_bag_eq, ← hsc]
  simp only [mOf, start0, List.map_cons, List.map_nil, List.length_cons, List.length_nil, Nat.reduceAdd, Nat.reduceSub, List.replicate, List.cons_append, List.nil_append]
  rw [seq_nx t1, seq_nx t2]
  have : gSeq q__law_bag_3 gNop ⟨[some (.val sc), some (.val (.int b)), some (.own (.lst (L.map PV.int))), w], []⟩ = .rto (.bag L 0 0 b) ⟨[some (.val sc), some (.val (.int b)), none, w], []⟩ := by
    unfold gSeq
    rw [t3]
  rw [this]
  rfl
section
variable {ro : List (Option SV)} {m m1 m2 : MO} {k : Nat}
theorem sm8 {x : Int} (h0 : 0 ≤ x) (h : x ≤ 1000000000000000000000000000000) : x.natAbs < 2 ^ 8000 := Nat.lt_of_le_of_lt (m := 1000000000000000000000000000000) (by omega) (by decide +kernel)
theorem draw3 (hp : BSrc k m) (hk : k < 2 ^ 55) (c : Int) (h0 : 0 < c) (hc : c ≤ 1000000000000000000000000000000) : ∃ d m', m__law_draw [.bor 0, .val (.int c)] [m] = .ok (.int d) [m'] ∧ 0 ≤ d ∧ d < c ∧ BSrc (k + 1) m' := e_draw hp (by omega) c h0 (sm8 (by omega) hc)
theorem at_mem (l : List PV) (d : Int) (h0 : 0 ≤ d) (h1 : d < l.length) : ∃ v ∈ l, atI l d = some v := by
  obtain ⟨i, rfl⟩ := Int.eq_ofNat_of_zero_le h0
  have hi : i < l.length := by omega
  exact ⟨l[i], List.getElem_mem hi, atI_at (List.getElem?_eq_getElem hi)⟩
end
section
variable {x0 : Option SV} {ro : List (Option SV)} {m m1 m2 : MO} {k : Nat}
theorem dro {f : Stt → Res PV} {st : Stt} {c d : Int} (hs : st = ⟨x0 :: some (.own m) :: ro, []⟩) (hf : f st = .ok (.int c) ⟨x0 :: some (.own m1) :: ro, []⟩) (e : m__law_draw [.bor 0, .val (.int c)] [m1] = .ok (.int d) [m2]) : eCall m__law_draw (avN 2 (lSl 1 (lPv f lNil))) st = .ok (.int d) ⟨x0 :: some (.own m2) :: ro, []⟩ := by
  subst hs
  simp only [eCall, avN, lSl, lPv, lNil, List.getElem?_cons_zero, List.getElem?_cons_succ, hf, Res.bind_ok, List.length_cons, List.length_nil, Nat.reduceAdd, if_true, lowerA, PL.keyOf, distinct, getAll, getK, setAll, setK, List.set_cons_zero, List.set_cons_succ, Option.map_some, List.contains_nil, List.elem_nil, Bool.not_false, Bool.and_self, e]
  first | rfl | (simp [getAll, getK, setAll, setK, PL.keyOf, lowerA, distinct, e])
end
theorem pickoT {x0 : Option SV} {ro : List (Option SV)} {m : MO} {k : Nat} (hp : BSrc k m) (hk : k < 2 ^ 55) (l : List PV) (c : Int) (hl : c = l.length) (h0 : 0 < c) (hc : c ≤ 1000) {fl : Stt → Res (List PV)} {st : Stt} (hf : fl st = .ok l ⟨x0 :: some (.own m) :: ro, []⟩) :
    ∃ v ∈ l, ∃ m', BSrc (k + 1) m' ∧ eBin pIx (eTup fl) (eCall m__law_draw (avN 2 (lSl 1 (lPv (eC (.int c)) lNil)))) st = .ok v ⟨x0 :: some (.own m') :: ro, []⟩ := by
  obtain ⟨d, m', e, a, z, p⟩ := draw3 hp hk c h0 (by omega)
  obtain ⟨v, hv, ea⟩ := at_mem l d a (by omega)
  exact ⟨v, hv, m', p, bin_at2 (p := .tup l) (tup_at hf (by omega)) (dro rfl rfl e) ea⟩
end K80
/-! K80_V: the law holds. -/
namespace K80
open PySem PySem.Spec PyProof.Rows L2 PL PN PM
noncomputable def q__law_flags_1 : Stt → Fl := (gAsgO 1 (oLst (aCons (eIsX ["InvalidGuard"] (eVar 0)) (aCons (eIsX ["InvalidLanes"] (eVar 0)) (aCons (eIsX ["InvalidStatement"] (eVar 0)) aNil)))))
noncomputable def q__law_flags_2 : Stt → Fl := (gExt 1 (frz (oLst (aCons (eIsX ["InvalidBarrier"] (eVar 0)) (aCons (eIsX ["InvalidAccess"] (eVar 0)) (aCons (eIsX ["InvalidNumber"] (eVar 0)) aNil))))))
noncomputable def q__law_flags_3 : Stt → Fl := (gExt 1 (frz (oLst (aCons (eIsX ["InvalidArray"] (eVar 0)) (aCons (eIsX ["InvalidSchedule"] (eVar 0)) (aCons (eIsX ["UnlikeLanes"] (eVar 0)) aNil))))))
noncomputable def q__law_flags_4 : Stt → Fl := (gExt 1 (frz (oLst (aCons (eIsX ["Racing"] (eVar 0)) (aCons (eIsX ["NotPlain"] (eVar 0)) (aCons (eIsX ["NothingToUndo"] (eVar 0)) aNil))))))
noncomputable def q__law_flags_5 : Stt → Fl := (gApp 1 (eIsX ["Unreadable"] (eVar 0)))
noncomputable def q__law_flags_6 : Stt → Fl := (gRet (frz (oMv 1)))
theorem g__law_flags_eq : g__law_flags = (gSeq q__law_flags_1 (gSeq q__law_flags_2 (gSeq q__law_flags_3 (gSeq q__law_flags_4 (gSeq q__law_flags_5 (gSeq q__law_flags_6 gNop)))))) := rfl
noncomputable def q__law_made_1 : Stt → Fl := (gAsgO 1 (oLst (aCons (eTup (aCons (eNewX "InvalidGuard" (eVar 0)) (aCons (eNewX "InvalidGuard" (eVar 0)) aNil))) (aCons (eTup (aCons (eNewX "InvalidLanes" (eVar 0)) (aCons (eNewX "InvalidLanes" (eVar 0)) aNil))) aNil))))
noncomputable def q__law_made_2 : Stt → Fl := (gApp 1 (eTup (aCons (eNewX "InvalidStatement" (eVar 0)) (aCons (eNewX "InvalidStatement" (eVar 0)) aNil))))
noncomputable def q__law_made_3 : Stt → Fl := (gApp 1 (eTup (aCons (eNewX "InvalidBarrier" (eVar 0)) (aCons (eNewX "InvalidBarrier" (eVar 0)) aNil))))
noncomputable def q__law_made_4 : Stt → Fl := (gApp 1 (eTup (aCons (eNewX "InvalidAccess" (eVar 0)) (aCons (eNewX "InvalidAccess" (eVar 0)) aNil))))
noncomputable def q__law_made_5 : Stt → Fl := (gApp 1 (eTup (aCons (eNewX "InvalidNumber" (eVar 0)) (aCons (eNewX "InvalidNumber" (eVar 0)) aNil))))
noncomputable def q__law_made_6 : Stt → Fl := (gApp 1 (eTup (aCons (eNewX "InvalidArray" (eVar 0)) (aCons (eNewX "InvalidArray" (eVar 0)) aNil))))
noncomputable def q__law_made_7 : Stt → Fl := (gApp 1 (eTup (aCons (eNewX "InvalidSchedule" (eVar 0)) (aCons (eNewX "InvalidSchedule" (eVar 0)) aNil))))
noncomputable def q__law_made_8 : Stt → Fl := (gApp 1 (eTup (aCons (eNewX "UnlikeLanes" (eVar 0)) (aCons (eNewX "UnlikeLanes" (eVar 0)) aNil))))
noncomputable def q__law_made_9 : Stt → Fl := (gApp 1 (eTup (aCons (eNewX "Racing" (eVar 0)) (aCons (eNewX "Racing" (eVar 0)) aNil))))
noncomputable def q__law_made_10 : Stt → Fl := (gApp 1 (eTup (aCons (eNewX "NotPlain" (eVar 0)) (aCons (eNewX "NotPlain" (eVar 0)) aNil))))
noncomputable def q__law_made_11 : Stt → Fl := (gApp 1 (eTup (aCons (eNewX "NothingToUndo" (eVar 0)) (aCons (eNewX "NothingToUndo" (eVar 0)) aNil))))
noncomputable def q__law_made_12 : Stt → Fl := (gApp 1 (eTup (aCons (eNewX "Unreadable" (eVar 0)) (aCons (eNewX "Unreadable" (eVar 0)) aNil))))
noncomputable def q__law_made_13 : Stt → Fl := (gRet (frz (oMv 1)))
theorem g__law_made_eq : g__law_made = (gSeq q__law_made_1 (gSeq q__law_made_2 (gSeq q__law_made_3 (gSeq q__law_made_4 (gSeq q__law_made_5 (gSeq q__law_made_6 (gSeq q__law_made_7 (gSeq q__law_made_8 (gSeq q__law_made_9 (gSeq q__law_made_10 (gSeq q__law_made_11 (gSeq q__law_made_12 (gSeq q__law_made_13 gNop))))))))))))) := rfl
noncomputable def l_law_1b : PV → Stt → Option Stt := (aName 2)
noncomputable def l_law_2b : PV → Stt → Option Stt := (aName 5)
noncomputable def l_law_3b : PV → Stt → Option Stt := (aName 6)
noncomputable def l_law_4c : PV → Stt → Option Stt := (aName 7)
noncomputable def l_law_4d : Stt → Res Bool := tYesD
noncomputable def l_law_4e : Stt → Res PV := (eBin pEq (eVar 7) (eVar 5))
noncomputable def l_law_3c_s1 : Stt → Fl := (gIf (tOrr (tOf (eBin pNe (eCallB pRepr (aCons (eXv (eVar 6)) aNil)) (eCallB pRepr (aCons (eVar 3) aNil)))) (tOrr (tNt (tTru (eIsX ["StrideError"] (eVar 6)))) (tNt (tTru (eIsX ["ValueError"] (eVar 6)))))) (gSeq (gRet (eC (.bl false))) gNop) gNop)
noncomputable def l_law_3c_s2 : Stt → Fl := (gIf (tOf (eBin pNe (eCall m__law_flags (avN 1 (lPv (eVar 6) lNil))) (frz (oComp [7] (iRangeW1 (aCons (eC (.int 13)) aNil)) l_law_4c l_law_4d l_law_4e)))) (gSeq (gRet (eC (.bl false))) gNop) gNop)
noncomputable def l_law_3c : Stt → Fl := (gSeq l_law_3c_s1 (gSeq l_law_3c_s2 gNop))
noncomputable def l_law_2c_s1 : Stt → Fl := (gFor (iAny (eBin pIx (eVar 4) (eVar 5))) l_law_3b l_law_3c)
noncomputable def l_law_2c : Stt → Fl := (gSeq l_law_2c_s1 gNop)
noncomputable def l_law_1c_s1 : Stt → Fl := (gAsg (eBin pIx (eTup (aCons (eC .non) (aCons (eTup (aCons (eC (.int 0)) (aCons (eC (.int 1)) (aCons (eC (.int 2)) (aCons (eC (.int 3)) aNil))))) (aCons (eC (.str "text")) (aCons (eCall m__law_draw (avN 2 (lSl 1 (lPv (eBin pPow (eC (.int 10)) (eC (.int 20))) lNil)))) (aCons (eTup (aCons (eC (.int 0)) (aCons (eC (.int 2)) aNil))) (aCons (eUn pNeg (eC (.int 1))) aNil))))))) (eCall m__law_draw (avN 2 (lSl 1 (lPv (eC (.int 6)) lNil))))) (aName 3))
noncomputable def l_law_1c_s2 : Stt → Fl := (gAsg (eCall m__law_made (avN 1 (lPv (eVar 3) lNil))) (aName 4))
noncomputable def l_law_1c_s3 : Stt → Fl := (gFor (iRangeW1 (aCons (eC (.int 13)) aNil)) l_law_2b l_law_2c)
noncomputable def l_law_1c_s4 : Stt → Fl := (gIf (tOrr (tOf (eBin pNe (eCallB pRepr (aCons (eXv (eNewX "StrideError" (eVar 3))) aNil)) (eCallB pRepr (aCons (eVar 3) aNil)))) (tOf (eBin pNe (eCallB pRepr (aCons (eXv (eNewX "StrideError" (eVar 3))) aNil)) (eCallB pRepr (aCons (eVar 3) aNil))))) (gSeq (gRet (eC (.bl false))) gNop) gNop)
noncomputable def l_law_1c : Stt → Fl := (gSeq l_law_1c_s1 (gSeq l_law_1c_s2 (gSeq l_law_1c_s3 (gSeq l_law_1c_s4 gNop))))
noncomputable def q_law_1 : Stt → Fl := (gAsgO 1 (oCall m__law_bag (avN 1 (lPv (eVar 0) lNil))))
noncomputable def q_law_2 : Stt → Fl := (gFor (iRangeW1 (aCons (eBin pAdd (eC (.int 4)) (eCallB pMin2 (aCons (eC (.int 8)) (aCons (eCallB pLen (aCons (eVar 0) aNil)) aNil)))) aNil)) l_law_1b l_law_1c)
noncomputable def q_law_3 : Stt → Fl := (gRet (eBin pEq (eCall m__law_flags (avN 1 (lPv (eNewX "StrideError" (eC (.str "a"))) lNil))) (eBin pMul (frz (oLst (aCons (eC (.bl false)) aNil))) (eC (.int 13)))))
theorem g_law_eq : g_law = (gSeq q_law_1 (gSeq q_law_2 (gSeq q_law_3 gNop))) := rfl
def nm13 : List Str := ["InvalidGuard", "InvalidLanes", "InvalidStatement", "InvalidBarrier", "InvalidAccess", "InvalidNumber", "InvalidArray", "InvalidSchedule", "UnlikeLanes", "Racing", "NotPlain", "NothingToUndo", "Unreadable"]
theorem nm_in : ∀ c ∈ nm13, c ∈ errNames := by decide +kernel
theorem flags_eq : ∀ i : Nat, (hi : i < 13) → nm13.map (fun t => exSub (nm13[i]'hi) t) = (List.range 13).map fun s : Nat => ((s : Int) == (i : Int)) := by decide +kernel
theorem isx_at {ts : List Str} {fe : Stt → Res PV} {c : Str} {v : PV} {st : Stt} {b : Bool} (h : fe st = .ok (.exi c v) st) (hc : c ∈ errNames) (hb : ts.any (exSub c) = b) : eIsX ts fe st = .ok (.bl b) st := by
  unfold eIsX
  rw [h]
  simp only [Res.bind_ok]
  rw [if_pos hc, hb]
theorem isx1 {fe : Stt → Res PV} {c : Str} {v : PV} {st : Stt} (h : fe st = .ok (.exi c v) st) (hc : c ∈ errNames) (t : Str) : eIsX [t] fe st = .ok (.bl (exSub c t)) st := isx_at h hc (by simp)
theorem xv_at {fe : Stt → Res PV} {c : Str} {v : PV} {st : Stt} (h : fe st = .ok (.exi c v) st) (hc : c ∈ errNames) : eXv fe st = .ok v st := by
  unfold eXv
  rw [h]
  simp only [Res.bind_ok]
  rw [if_pos hc]
theorem e_flags {c : Str} {v : PV} (hc : c ∈ errNames) : m__law_flags [.val (.exi c v)] [] = .ok (.lst (nm13.map fun t => .bl (exSub c t))) [] := by
  have t1 : q__law_flags_1 ⟨[some (.val (.exi c v)), none], []⟩ = .nx ⟨[some (.val (.exi c v)), some (.own (.lst [.bl (exSub c "InvalidGuard"), .bl (exSub c "InvalidLanes"), .bl (exSub c "InvalidStatement")]))], []⟩ := lstoZ (s1 := ⟨[some (.val (.exi c v)), none], []⟩) (acons_at (s1 := ⟨[some (.val (.exi c v)), none], []⟩) (isx1 rfl hc "InvalidGuard") (acons_at (s1 := ⟨[some (.val (.exi c v)), none], []⟩) (isx1 rfl hc "InvalidLanes") (acons_at (s1 := ⟨[some (.val (.exi c v)), none], []⟩) (isx1 rfl hc "InvalidStatement") rfl))) (by show (3 : Nat) ≤ 16777216; decide) (by show (1 : Nat) < 2; decide) rfl
  have t2 : q__law_flags_2 ⟨[some (.val (.exi c v)), some (.own (.lst [.bl (exSub c "InvalidGuard"), .bl (exSub c "InvalidLanes"), .bl (exSub c "InvalidStatement")]))], []⟩ = .nx ⟨[some (.val (.exi c v)), some (.own (.lst [.bl (exSub c "InvalidGuard"), .bl (exSub c "InvalidLanes"), .bl (exSub c "InvalidStatement"), .bl (exSub c "InvalidBarrier"), .bl (exSub c "InvalidAccess"), .bl (exSub c "InvalidNumber")]))], []⟩ := extZ (l := [.bl (exSub c "InvalidGuard"), .bl (exSub c "InvalidLanes"), .bl (exSub c "InvalidStatement")]) rfl (lst_at (acons_at (s1 := ⟨[some (.val (.exi c v)), some (.own (.lst [.bl (exSub c "InvalidGuard"), .bl (exSub c "InvalidLanes"), .bl (exSub c "InvalidStatement")]))], []⟩) (isx1 rfl hc "InvalidBarrier") (acons_at (s1 := ⟨[some (.val (.exi c v)), some (.own (.lst [.bl (exSub c "InvalidGuard"), .bl (exSub c "InvalidLanes"), .bl (exSub c "InvalidStatement")]))], []⟩) (isx1 rfl hc "InvalidAccess") (acons_at (s1 := ⟨[some (.val (.exi c v)), some (.own (.lst [.bl (exSub c "InvalidGuard"), .bl (exSub c "InvalidLanes"), .bl (exSub c "InvalidStatement")]))], []⟩) (isx1 rfl hc "InvalidNumber") rfl))) (by show (3 : Nat) ≤ 16777216; decide)) (by show (3 : Nat) + 3 ≤ 16777216; decide) rfl
  have t3 : q__law_flags_3 ⟨[some (.val (.exi c v)), some (.own (.lst [.bl (exSub c "InvalidGuard"), .bl (exSub c "InvalidLanes"), .bl (exSub c "InvalidStatement"), .bl (exSub c "InvalidBarrier"), .bl (exSub c "InvalidAccess"), .bl (exSub c "InvalidNumber")]))], []⟩ = .nx ⟨[some (.val (.exi c v)), some (.own (.lst [.bl (exSub c "InvalidGuard"), .bl (exSub c "InvalidLanes"), .bl (exSub c "InvalidStatement"), .bl (exSub c "InvalidBarrier"), .bl (exSub c "InvalidAccess"), .bl (exSub c "InvalidNumber"), .bl (exSub c "InvalidArray"), .bl (exSub c "InvalidSchedule"), .bl (exSub c "UnlikeLanes")]))], []⟩ := extZ (l := [.bl (exSub c "InvalidGuard"), .bl (exSub c "InvalidLanes"), .bl (exSub c "InvalidStatement"), .bl (exSub c "InvalidBarrier"), .bl (exSub c "InvalidAccess"), .bl (exSub c "InvalidNumber")]) rfl (lst_at (acons_at (s1 := ⟨[some (.val (.exi c v)), some (.own (.lst [.bl (exSub c "InvalidGuard"), .bl (exSub c "InvalidLanes"), .bl (exSub c "InvalidStatement"), .bl (exSub c "InvalidBarrier"), .bl (exSub c "InvalidAccess"), .bl (exSub c "InvalidNumber")]))], []⟩) (isx1 rfl hc "InvalidArray") (acons_at (s1 := ⟨[some (.val (.exi c v)), some (.own (.lst [.bl (exSub c "InvalidGuard"), .bl (exSub c "InvalidLanes"), .bl (exSub c "InvalidStatement"), .bl (exSub c "InvalidBarrier"), .bl (exSub c "InvalidAccess"), .bl (exSub c "InvalidNumber")]))], []⟩) (isx1 rfl hc "InvalidSchedule") (acons_at (s1 := ⟨[some (.val (.exi c v)), some (.own (.lst [.bl (exSub c "InvalidGuard"), .bl (exSub c "InvalidLanes"), .bl (exSub c "InvalidStatement"), .bl (exSub c "InvalidBarrier"), .bl (exSub c "InvalidAccess"), .bl (exSub c "InvalidNumber")]))], []⟩) (isx1 rfl hc "UnlikeLanes") rfl))) (by show (3 : Nat) ≤ 16777216; decide)) (by show (6 : Nat) + 3 ≤ 16777216; decide) rfl
  have t4 : q__law_flags_4 ⟨[some (.val (.exi c v)), some (.own (.lst [.bl (exSub c "InvalidGuard"), .bl (exSub c "InvalidLanes"), .bl (exSub c "InvalidStatement"), .bl (exSub c "InvalidBarrier"), .bl (exSub c "InvalidAccess"), .bl (exSub c "InvalidNumber"), .bl (exSub c "InvalidArray"), .bl (exSub c "InvalidSchedule"), .bl (exSub c "UnlikeLanes")]))], []⟩ = .nx ⟨[some (.val (.exi c v)), some (.own (.lst [.bl (exSub c "InvalidGuard"), .bl (exSub c "InvalidLanes"), .bl (exSub c "InvalidStatement"), .bl (exSub c "InvalidBarrier"), .bl (exSub c "InvalidAccess"), .bl (exSub c "InvalidNumber"), .bl (exSub c "InvalidArray"), .bl (exSub c "InvalidSchedule"), .bl (exSub c "UnlikeLanes"), .bl (exSub c "Racing"), .bl (exSub c "NotPlain"), .bl (exSub c "NothingToUndo")]))], []⟩ := extZ (l := [.bl (exSub c "InvalidGuard"), .bl (exSub c "InvalidLanes"), .bl (exSub c "InvalidStatement"), .bl (exSub c "InvalidBarrier"), .bl (exSub c "InvalidAccess"), .bl (exSub c "InvalidNumber"), .bl (exSub c "InvalidArray"), .bl (exSub c "InvalidSchedule"), .bl (exSub c "UnlikeLanes")]) rfl (lst_at (acons_at (s1 := ⟨[some (.val (.exi c v)), some (.own (.lst [.bl (exSub c "InvalidGuard"), .bl (exSub c "InvalidLanes"), .bl (exSub c "InvalidStatement"), .bl (exSub c "InvalidBarrier"), .bl (exSub c "InvalidAccess"), .bl (exSub c "InvalidNumber"), .bl (exSub c "InvalidArray"), .bl (exSub c "InvalidSchedule"), .bl (exSub c "UnlikeLanes")]))], []⟩) (isx1 rfl hc "Racing") (acons_at (s1 := ⟨[some (.val (.exi c v)), some (.own (.lst [.bl (exSub c "InvalidGuard"), .bl (exSub c "InvalidLanes"), .bl (exSub c "InvalidStatement"), .bl (exSub c "InvalidBarrier"), .bl (exSub c "InvalidAccess"), .bl (exSub c "InvalidNumber"), .bl (exSub c "InvalidArray"), .bl (exSub c "InvalidSchedule"), .bl (exSub c "UnlikeLanes")]))], []⟩) (isx1 rfl hc "NotPlain") (acons_at (s1 := ⟨[some (.val (.exi c v)), some (.own (.lst [.bl (exSub c "InvalidGuard"), .bl (exSub c "InvalidLanes"), .bl (exSub c "InvalidStatement"), .bl (exSub c "InvalidBarrier"), .bl (exSub c "InvalidAccess"), .bl (exSub c "InvalidNumber"), .bl (exSub c "InvalidArray"), .bl (exSub c "InvalidSchedule"), .bl (exSub c "UnlikeLanes")]))], []⟩) (isx1 rfl hc "NothingToUndo") rfl))) (by show (3 : Nat) ≤ 16777216; decide)) (by show (9 : Nat) + 3 ≤ 16777216; decide) rfl
  have t5 : q__law_flags_5 ⟨[some (.val (.exi c v)), some (.own (.lst [.bl (exSub c "InvalidGuard"), .bl (exSub c "InvalidLanes"), .bl (exSub c "InvalidStatement"), .bl (exSub c "InvalidBarrier"), .bl (exSub c "InvalidAccess"), .bl (exSub c "InvalidNumber"), .bl (exSub c "InvalidArray"), .bl (exSub c "InvalidSchedule"), .bl (exSub c "UnlikeLanes"), .bl (exSub c "Racing"), .bl (exSub c "NotPlain"), .bl (exSub c "NothingToUndo")]))], []⟩ = .nx ⟨[some (.val (.exi c v)), some (.own (.lst [.bl (exSub c "InvalidGuard"), .bl (exSub c "InvalidLanes"), .bl (exSub c "InvalidStatement"), .bl (exSub c "InvalidBarrier"), .bl (exSub c "InvalidAccess"), .bl (exSub c "InvalidNumber"), .bl (exSub c "InvalidArray"), .bl (exSub c "InvalidSchedule"), .bl (exSub c "UnlikeLanes"), .bl (exSub c "Racing"), .bl (exSub c "NotPlain"), .bl (exSub c "NothingToUndo"), .bl (exSub c "Unreadable")]))], []⟩ := bapp_at (l := [.bl (exSub c "InvalidGuard"), .bl (exSub c "InvalidLanes"), .bl (exSub c "InvalidStatement"), .bl (exSub c "InvalidBarrier"), .bl (exSub c "InvalidAccess"), .bl (exSub c "InvalidNumber"), .bl (exSub c "InvalidArray"), .bl (exSub c "InvalidSchedule"), .bl (exSub c "UnlikeLanes"), .bl (exSub c "Racing"), .bl (exSub c "NotPlain"), .bl (exSub c "NothingToUndo")]) rfl (isx1 rfl hc "Unreadable") (by show (12 : Nat) < 16777216; decide) rfl
  have t6 : q__law_flags_6 ⟨[some (.val (.exi c v)), some (.own (.lst [.bl (exSub c "InvalidGuard"), .bl (exSub c "InvalidLanes"), .bl (exSub c "InvalidStatement"), .bl (exSub c "InvalidBarrier"), .bl (exSub c "InvalidAccess"), .bl (exSub c "InvalidNumber"), .bl (exSub c "InvalidArray"), .bl (exSub c "InvalidSchedule"), .bl (exSub c "UnlikeLanes"), .bl (exSub c "Racing"), .bl (exSub c "NotPlain"), .bl (exSub c "NothingToUndo"), .bl (exSub c "Unreadable")]))], []⟩ = .rt (.lst [.bl (exSub c "InvalidGuard"), .bl (exSub c "InvalidLanes"), .bl (exSub c "InvalidStatement"), .bl (exSub c "InvalidBarrier"), .bl (exSub c "InvalidAccess"), .bl (exSub c "InvalidNumber"), .bl (exSub c "InvalidArray"), .bl (exSub c "InvalidSchedule"), .bl (exSub c "UnlikeLanes"), .bl (exSub c "Racing"), .bl (exSub c "NotPlain"), .bl (exSub c "NothingToUndo"), .bl (exSub c "Unreadable")]) ⟨[some (.val (.exi c v)), none], []⟩ := rfl
  unfold m__law_flags
  rw [g__law_flags_eq]
  simp only [mOf, start0, List.map_cons, List.map_nil, List.length_cons, List.length_nil, Nat.reduceAdd, Nat.reduceSub, List.replicate, List.cons_append, List.nil_append]
  rw [seq_nx t1, seq_nx t2, seq_nx t3, seq_nx t4, seq_nx t5, seq_rt t6]
  rfl
theorem e_made (v : PV) : m__law_made [.val v] [] = .ok (.lst (nm13.map fun c => .tup [.exi c v, .exi c v])) [] := by
  have t1 : q__law_made_1 ⟨[some (.val v), none], []⟩ = .nx ⟨[some (.val v), some (.own (.lst [.tup [.exi "InvalidGuard" v, .exi "InvalidGuard" v], .tup [.exi "InvalidLanes" v, .exi "InvalidLanes" v]]))], []⟩ := lstoZ (s1 := ⟨[some (.val v), none], []⟩) (acons_at (tup_at (l := [.exi "InvalidGuard" v, .exi "InvalidGuard" v]) (acons_at (s1 := ⟨[some (.val v), none], []⟩) rfl (acons_at (s1 := ⟨[some (.val v), none], []⟩) rfl rfl)) (by show (2 : Nat) ≤ 16777216; decide)) (acons_at (tup_at (l := [.exi "InvalidLanes" v, .exi "InvalidLanes" v]) (acons_at (s1 := ⟨[some (.val v), none], []⟩) rfl (acons_at (s1 := ⟨[some (.val v), none], []⟩) rfl rfl)) (by show (2 : Nat) ≤ 16777216; decide)) rfl)) (by show (2 : Nat) ≤ 16777216; decide) (by show (1 : Nat) < 2; decide) rfl
  have t2 : q__law_made_2 ⟨[some (.val v), some (.own (.lst [.tup [.exi "InvalidGuard" v, .exi "InvalidGuard" v], .tup [.exi "InvalidLanes" v, .exi "InvalidLanes" v]]))], []⟩ = .nx ⟨[some (.val v), some (.own (.lst [.tup [.exi "InvalidGuard" v, .exi "InvalidGuard" v], .tup [.exi "InvalidLanes" v, .exi "InvalidLanes" v], .tup [.exi "InvalidStatement" v, .exi "InvalidStatement" v]]))], []⟩ := bapp_at (l := [.tup [.exi "InvalidGuard" v, .exi "InvalidGuard" v], .tup [.exi "InvalidLanes" v, .exi "InvalidLanes" v]]) rfl (tup_at (l := [.exi "InvalidStatement" v, .exi "InvalidStatement" v]) (acons_at (s1 := ⟨[some (.val v), some (.own (.lst [.tup [.exi "InvalidGuard" v, .exi "InvalidGuard" v], .tup [.exi "InvalidLanes" v, .exi "InvalidLanes" v]]))], []⟩) rfl (acons_at (s1 := ⟨[some (.val v), some (.own (.lst [.tup [.exi "InvalidGuard" v, .exi "InvalidGuard" v], .tup [.exi "InvalidLanes" v, .exi "InvalidLanes" v]]))], []⟩) rfl rfl)) (by show (2 : Nat) ≤ 16777216; decide)) (by show (2 : Nat) < 16777216; decide) rfl
  have t3 : q__law_made_3 ⟨[some (.val v), some (.own (.lst [.tup [.exi "InvalidGuard" v, .exi "InvalidGuard" v], .tup [.exi "InvalidLanes" v, .exi "InvalidLanes" v], .tup [.exi "InvalidStatement" v, .exi "InvalidStatement" v]]))], []⟩ = .nx ⟨[some (.val v), some (.own (.lst [.tup [.exi "InvalidGuard" v, .exi "InvalidGuard" v], .tup [.exi "InvalidLanes" v, .exi "InvalidLanes" v], .tup [.exi "InvalidStatement" v, .exi "InvalidStatement" v], .tup [.exi "InvalidBarrier" v, .exi "InvalidBarrier" v]]))], []⟩ := bapp_at (l := [.tup [.exi "InvalidGuard" v, .exi "InvalidGuard" v], .tup [.exi "InvalidLanes" v, .exi "InvalidLanes" v], .tup [.exi "InvalidStatement" v, .exi "InvalidStatement" v]]) rfl (tup_at (l := [.exi "InvalidBarrier" v, .exi "InvalidBarrier" v]) (acons_at (s1 := ⟨[some (.val v), some (.own (.lst [.tup [.exi "InvalidGuard" v, .exi "InvalidGuard" v], .tup [.exi "InvalidLanes" v, .exi "InvalidLanes" v], .tup [.exi "InvalidStatement" v, .exi "InvalidStatement" v]]))], []⟩) rfl (acons_at (s1 := ⟨[some (.val v), some (.own (.lst [.tup [.exi "InvalidGuard" v, .exi "InvalidGuard" v], .tup [.exi "InvalidLanes" v, .exi "InvalidLanes" v], .tup [.exi "InvalidStatement" v, .exi "InvalidStatement" v]]))], []⟩) rfl rfl)) (by show (2 : Nat) ≤ 16777216; decide)) (by show (3 : Nat) < 16777216; decide) rfl
  have t4 : q__law_made_4 ⟨[some (.val v), some (.own (.lst [.tup [.exi "InvalidGuard" v, .exi "InvalidGuard" v], .tup [.exi "InvalidLanes" v, .exi "InvalidLanes" v], .tup [.exi "InvalidStatement" v, .exi "InvalidStatement" v], .tup [.exi "InvalidBarrier" v, .exi "InvalidBarrier" v]]))], []⟩ = .nx ⟨[some (.val v), some (.own (.lst [.tup [.exi "InvalidGuard" v, .exi "InvalidGuard" v], .tup [.exi "InvalidLanes" v, .exi "InvalidLanes" v], .tup [.exi "InvalidStatement" v, .exi "InvalidStatement" v], .tup [.exi "InvalidBarrier" v, .exi "InvalidBarrier" v], .tup [.exi "InvalidAccess" v, .exi "InvalidAccess" v]]))], []⟩ := bapp_at (l := [.tup [.exi "InvalidGuard" v, .exi "InvalidGuard" v], .tup [.exi "InvalidLanes" v, .exi "InvalidLanes" v], .tup [.exi "InvalidStatement" v, .exi "InvalidStatement" v], .tup [.exi "InvalidBarrier" v, .exi "InvalidBarrier" v]]) rfl (tup_at (l := [.exi "InvalidAccess" v, .exi "InvalidAccess" v]) (acons_at (s1 := ⟨[some (.val v), some (.own (.lst [.tup [.exi "InvalidGuard" v, .exi "InvalidGuard" v], .tup [.exi "InvalidLanes" v, .exi "InvalidLanes" v], .tup [.exi "InvalidStatement" v, .exi "InvalidStatement" v], .tup [.exi "InvalidBarrier" v, .exi "InvalidBarrier" v]]))], []⟩) rfl (acons_at (s1 := ⟨[some (.val v), some (.own (.lst [.tup [.exi "InvalidGuard" v, .exi "InvalidGuard" v], .tup [.exi "InvalidLanes" v, .exi "InvalidLanes" v], .tup [.exi "InvalidStatement" v, .exi "InvalidStatement" v], .tup [.exi "InvalidBarrier" v, .exi "InvalidBarrier" v]]))], []⟩) rfl rfl)) (by show (2 : Nat) ≤ 16777216; decide)) (by show (4 : Nat) < 16777216; decide) rfl
  have t5 : q__law_made_5 ⟨[some (.val v), some (.own (.lst [.tup [.exi "InvalidGuard" v, .exi "InvalidGuard" v], .tup [.exi "InvalidLanes" v, .exi "InvalidLanes" v], .tup [.exi "InvalidStatement" v, .exi "InvalidStatement" v], .tup [.exi "InvalidBarrier" v, .exi "InvalidBarrier" v], .tup [.exi "InvalidAccess" v, .exi "InvalidAccess" v]]))], []⟩ = .nx ⟨[some (.val v), some (.own (.lst [.tup [.exi "InvalidGuard" v, .exi "InvalidGuard" v], .tup [.exi "InvalidLanes" v, .exi "InvalidLanes" v], .tup [.exi "InvalidStatement" v, .exi "InvalidStatement" v], .tup [.exi "InvalidBarrier" v, .exi "InvalidBarrier" v], .tup [.exi "InvalidAccess" v, .exi "InvalidAccess" v], .tup [.exi "InvalidNumber" v, .exi "InvalidNumber" v]]))], []⟩ := bapp_at (l := [.tup [.exi "InvalidGuard" v, .exi "InvalidGuard" v], .tup [.exi "InvalidLanes" v, .exi "InvalidLanes" v], .tup [.exi "InvalidStatement" v, .exi "InvalidStatement" v], .tup [.exi "InvalidBarrier" v, .exi "InvalidBarrier" v], .tup [.exi "InvalidAccess" v, .exi "InvalidAccess" v]]) rfl (tup_at (l := [.exi "InvalidNumber" v, .exi "InvalidNumber" v]) (acons_at (s1 := ⟨[some (.val v), some (.own (.lst [.tup [.exi "InvalidGuard" v, .exi "InvalidGuard" v], .tup [.exi "InvalidLanes" v, .exi "InvalidLanes" v], .tup [.exi "InvalidStatement" v, .exi "InvalidStatement" v], .tup [.exi "InvalidBarrier" v, .exi "InvalidBarrier" v], .tup [.exi "InvalidAccess" v, .exi "InvalidAccess" v]]))], []⟩) rfl (acons_at (s1 := ⟨[some (.val v), some (.own (.lst [.tup [.exi "InvalidGuard" v, .exi "InvalidGuard" v], .tup [.exi "InvalidLanes" v, .exi "InvalidLanes" v], .tup [.exi "InvalidStatement" v, .exi "InvalidStatement" v], .tup [.exi "InvalidBarrier" v, .exi "InvalidBarrier" v], .tup [.exi "InvalidAccess" v, .exi "InvalidAccess" v]]))], []⟩) rfl rfl)) (by show (2 : Nat) ≤ 16777216; decide)) (by show (5 : Nat) < 16777216; decide) rfl
  have t6 : q__law_made_6 ⟨[some (.val v), some (.own (.lst [.tup [.exi "InvalidGuard" v, .exi "InvalidGuard" v], .tup [.exi "InvalidLanes" v, .exi "InvalidLanes" v], .tup [.exi "InvalidStatement" v, .exi "InvalidStatement" v], .tup [.exi "InvalidBarrier" v, .exi "InvalidBarrier" v], .tup [.exi "InvalidAccess" v, .exi "InvalidAccess" v], .tup [.exi "InvalidNumber" v, .exi "InvalidNumber" v]]))], []⟩ = .nx ⟨[some (.val v), some (.own (.lst [.tup [.exi "InvalidGuard" v, .exi "InvalidGuard" v], .tup [.exi "InvalidLanes" v, .exi "InvalidLanes" v], .tup [.exi "InvalidStatement" v, .exi "InvalidStatement" v], .tup [.exi "InvalidBarrier" v, .exi "InvalidBarrier" v], .tup [.exi "InvalidAccess" v, .exi "InvalidAccess" v], .tup [.exi "InvalidNumber" v, .exi "InvalidNumber" v], .tup [.exi "InvalidArray" v, .exi "InvalidArray" v]]))], []⟩ := bapp_at (l := [.tup [.exi "InvalidGuard" v, .exi "InvalidGuard" v], .tup [.exi "InvalidLanes" v, .exi "InvalidLanes" v], .tup [.exi "InvalidStatement" v, .exi "InvalidStatement" v], .tup [.exi "InvalidBarrier" v, .exi "InvalidBarrier" v], .tup [.exi "InvalidAccess" v, .exi "InvalidAccess" v], .tup [.exi "InvalidNumber" v, .exi "InvalidNumber" v]]) rfl (tup_at (l := [.exi "InvalidArray" v, .exi "InvalidArray" v]) (acons_at (s1 := ⟨[some (.val v), some (.own (.lst [.tup [.exi "InvalidGuard" v, .exi "InvalidGuard" v], .tup [.exi "InvalidLanes" v, .exi "InvalidLanes" v], .tup [.exi "InvalidStatement" v, .exi "InvalidStatement" v], .tup [.exi "InvalidBarrier" v, .exi "InvalidBarrier" v], .tup [.exi "InvalidAccess" v, .exi "InvalidAccess" v], .tup [.exi "InvalidNumber" v, .exi "InvalidNumber" v]]))], []⟩) rfl (acons_at (s1 := ⟨[some (.val v), some (.own (.lst [.tup [.exi "InvalidGuard" v, .exi "InvalidGuard" v], .tup [.exi "InvalidLanes" v, .exi "InvalidLanes" v], .tup [.exi "InvalidStatement" v, .exi "InvalidStatement" v], .tup [.exi "InvalidBarrier" v, .exi "InvalidBarrier" v], .tup [.exi "InvalidAccess" v, .exi "InvalidAccess" v], .tup [.exi "InvalidNumber" v, .exi "InvalidNumber" v]]))], []⟩) rfl rfl)) (by show (2 : Nat) ≤ 16777216; decide)) (by show (6 : Nat) < 16777216; decide) rfl
  have t7 : q__law_made_7 ⟨[some (.val v), some (.own (.lst [.tup [.exi "InvalidGuard" v, .exi "InvalidGuard" v], .tup [.exi "InvalidLanes" v, .exi "InvalidLanes" v], .tup [.exi "InvalidStatement" v, .exi "InvalidStatement" v], .tup [.exi "InvalidBarrier" v, .exi "InvalidBarrier" v], .tup [.exi "InvalidAccess" v, .exi "InvalidAccess" v], .tup [.exi "InvalidNumber" v, .exi "InvalidNumber" v], .tup [.exi "InvalidArray" v, .exi "InvalidArray" v]]))], []⟩ = .nx ⟨[some (.val v), some (.own (.lst [.tup [.exi "InvalidGuard" v, .exi "InvalidGuard" v], .tup [.exi "InvalidLanes" v, .exi "InvalidLanes" v], .tup [.exi "InvalidStatement" v, .exi "InvalidStatement" v], .tup [.exi "InvalidBarrier" v, .exi "InvalidBarrier" v], .tup [.exi "InvalidAccess" v, .exi "InvalidAccess" v], .tup [.exi "InvalidNumber" v, .exi "InvalidNumber" v], .tup [.exi "InvalidArray" v, .exi "InvalidArray" v], .tup [.exi "InvalidSchedule" v, .exi "InvalidSchedule" v]]))], []⟩ := bapp_at (l := [.tup [.exi "InvalidGuard" v, .exi "InvalidGuard" v], .tup [.exi "InvalidLanes" v, .exi "InvalidLanes" v], .tup [.exi "InvalidStatement" v, .exi "InvalidStatement" v], .tup [.exi "InvalidBarrier" v, .exi "InvalidBarrier" v], .tup [.exi "InvalidAccess" v, .exi "InvalidAccess" v], .tup [.exi "InvalidNumber" v, .exi "InvalidNumber" v], .tup [.exi "InvalidArray" v, .exi "InvalidArray" v]]) rfl (tup_at (l := [.exi "InvalidSchedule" v, .exi "InvalidSchedule" v]) (acons_at (s1 := ⟨[some (.val v), some (.own (.lst [.tup [.exi "InvalidGuard" v, .exi "InvalidGuard" v], .tup [.exi "InvalidLanes" v, .exi "InvalidLanes" v], .tup [.exi "InvalidStatement" v, .exi "InvalidStatement" v], .tup [.exi "InvalidBarrier" v, .exi "InvalidBarrier" v], .tup [.exi "InvalidAccess" v, .exi "InvalidAccess" v], .tup [.exi "InvalidNumber" v, .exi "InvalidNumber" v], .tup [.exi "InvalidArray" v, .exi "InvalidArray" v]]))], []⟩) rfl (acons_at (s1 := ⟨[some (.val v), some (.own (.lst [.tup [.exi "InvalidGuard" v, .exi "InvalidGuard" v], .tup [.exi "InvalidLanes" v, .exi "InvalidLanes" v], .tup [.exi "InvalidStatement" v, .exi "InvalidStatement" v], .tup [.exi "InvalidBarrier" v, .exi "InvalidBarrier" v], .tup [.exi "InvalidAccess" v, .exi "InvalidAccess" v], .tup [.exi "InvalidNumber" v, .exi "InvalidNumber" v], .tup [.exi "InvalidArray" v, .exi "InvalidArray" v]]))], []⟩) rfl rfl)) (by show (2 : Nat) ≤ 16777216; decide)) (by show (7 : Nat) < 16777216; decide) rfl
  have t8 : q__law_made_8 ⟨[some (.val v), some (.own (.lst [.tup [.exi "InvalidGuard" v, .exi "InvalidGuard" v], .tup [.exi "InvalidLanes" v, .exi "InvalidLanes" v], .tup [.exi "InvalidStatement" v, .exi "InvalidStatement" v], .tup [.exi "InvalidBarrier" v, .exi "InvalidBarrier" v], .tup [.exi "InvalidAccess" v, .exi "InvalidAccess" v], .tup [.exi "InvalidNumber" v, .exi "InvalidNumber" v], .tup [.exi "InvalidArray" v, .exi "InvalidArray" v], .tup [.exi "InvalidSchedule" v, .exi "InvalidSchedule" v]]))], []⟩ = .nx ⟨[some (.val v), some (.own (.lst [.tup [.exi "InvalidGuard" v, .exi "InvalidGuard" v], .tup [.exi "InvalidLanes" v, .exi "InvalidLanes" v], .tup [.exi "InvalidStatement" v, .exi "InvalidStatement" v], .tup [.exi "InvalidBarrier" v, .exi "InvalidBarrier" v], .tup [.exi "InvalidAccess" v, .exi "InvalidAccess" v], .tup [.exi "InvalidNumber" v, .exi "InvalidNumber" v], .tup [.exi "InvalidArray" v, .exi "InvalidArray" v], .tup [.exi "InvalidSchedule" v, .exi "InvalidSchedule" v], .tup [.exi "UnlikeLanes" v, .exi "UnlikeLanes" v]]))], []⟩ := bapp_at (l := [.tup [.exi "InvalidGuard" v, .exi "InvalidGuard" v], .tup [.exi "InvalidLanes" v, .exi "InvalidLanes" v], .tup [.exi "InvalidStatement" v, .exi "InvalidStatement" v], .tup [.exi "InvalidBarrier" v, .exi "InvalidBarrier" v], .tup [.exi "InvalidAccess" v, .exi "InvalidAccess" v], .tup [.exi "InvalidNumber" v, .exi "InvalidNumber" v], .tup [.exi "InvalidArray" v, .exi "InvalidArray" v], .tup [.exi "InvalidSchedule" v, .exi "InvalidSchedule" v]]) rfl (tup_at (l := [.exi "UnlikeLanes" v, .exi "UnlikeLanes" v]) (acons_at (s1 := ⟨[some (.val v), some (.own (.lst [.tup [.exi "InvalidGuard" v, .exi "InvalidGuard" v], .tup [.exi "InvalidLanes" v, .exi "InvalidLanes" v], .tup [.exi "InvalidStatement" v, .exi "InvalidStatement" v], .tup [.exi "InvalidBarrier" v, .exi "InvalidBarrier" v], .tup [.exi "InvalidAccess" v, .exi "InvalidAccess" v], .tup [.exi "InvalidNumber" v, .exi "InvalidNumber" v], .tup [.exi "InvalidArray" v, .exi "InvalidArray" v], .tup [.exi "InvalidSchedule" v, .exi "InvalidSchedule" v]]))], []⟩) rfl (acons_at (s1 := ⟨[some (.val v), some (.own (.lst [.tup [.exi "InvalidGuard" v, .exi "InvalidGuard" v], .tup [.exi "InvalidLanes" v, .exi "InvalidLanes" v], .tup [.exi "InvalidStatement" v, .exi "InvalidStatement" v], .tup [.exi "InvalidBarrier" v, .exi "InvalidBarrier" v], .tup [.exi "InvalidAccess" v, .exi "InvalidAccess" v], .tup [.exi "InvalidNumber" v, .exi "InvalidNumber" v], .tup [.exi "InvalidArray" v, .exi "InvalidArray" v], .tup [.exi "InvalidSchedule" v, .exi "InvalidSchedule" v]]))], []⟩) rfl rfl)) (by show (2 : Nat) ≤ 16777216; decide)) (by show (8 : Nat) < 16777216; decide) rfl
  have t9 : q__law_made_9 ⟨[some (.val v), some (.own (.lst [.tup [.exi "InvalidGuard" v, .exi "InvalidGuard" v], .tup [.exi "InvalidLanes" v, .exi "InvalidLanes" v], .tup [.exi "InvalidStatement" v, .exi "InvalidStatement" v], .tup [.exi "InvalidBarrier" v, .exi "InvalidBarrier" v], .tup [.exi "InvalidAccess" v, .exi "InvalidAccess" v], .tup [.exi "InvalidNumber" v, .exi "InvalidNumber" v], .tup [.exi "InvalidArray" v, .exi "InvalidArray" v], .tup [.exi "InvalidSchedule" v, .exi "InvalidSchedule" v], .tup [.exi "UnlikeLanes" v, .exi "UnlikeLanes" v]]))], []⟩ = .nx ⟨[some (.val v), some (.own (.lst [.tup [.exi "InvalidGuard" v, .exi "InvalidGuard" v], .tup [.exi "InvalidLanes" v, .exi "InvalidLanes" v], .tup [.exi "InvalidStatement" v, .exi "InvalidStatement" v], .tup [.exi "InvalidBarrier" v, .exi "InvalidBarrier" v], .tup [.exi "InvalidAccess" v, .exi "InvalidAccess" v], .tup [.exi "InvalidNumber" v, .exi "InvalidNumber" v], .tup [.exi "InvalidArray" v, .exi "InvalidArray" v], .tup [.exi "InvalidSchedule" v, .exi "InvalidSchedule" v], .tup [.exi "UnlikeLanes" v, .exi "UnlikeLanes" v], .tup [.exi "Racing" v, .exi "Racing" v]]))], []⟩ := bapp_at (l := [.tup [.exi "InvalidGuard" v, .exi "InvalidGuard" v], .tup [.exi "InvalidLanes" v, .exi "InvalidLanes" v], .tup [.exi "InvalidStatement" v, .exi "InvalidStatement" v], .tup [.exi "InvalidBarrier" v, .exi "InvalidBarrier" v], .tup [.exi "InvalidAccess" v, .exi "InvalidAccess" v], .tup [.exi "InvalidNumber" v, .exi "InvalidNumber" v], .tup [.exi "InvalidArray" v, .exi "InvalidArray" v], .tup [.exi "InvalidSchedule" v, .exi "InvalidSchedule" v], .tup [.exi "UnlikeLanes" v, .exi "UnlikeLanes" v]]) rfl (tup_at (l := [.exi "Racing" v, .exi "Racing" v]) (acons_at (s1 := ⟨[some (.val v), some (.own (.lst [.tup [.exi "InvalidGuard" v, .exi "InvalidGuard" v], .tup [.exi "InvalidLanes" v, .exi "InvalidLanes" v], .tup [.exi "InvalidStatement" v, .exi "InvalidStatement" v], .tup [.exi "InvalidBarrier" v, .exi "InvalidBarrier" v], .tup [.exi "InvalidAccess" v, .exi "InvalidAccess" v], .tup [.exi "InvalidNumber" v, .exi "InvalidNumber" v], .tup [.exi "InvalidArray" v, .exi "InvalidArray" v], .tup [.exi "InvalidSchedule" v, .exi "InvalidSchedule" v], .tup [.exi "UnlikeLanes" v, .exi "UnlikeLanes" v]]))], []⟩) rfl (acons_at (s1 := ⟨[some (.val v), some (.own (.lst [.tup [.exi "InvalidGuard" v, .exi "InvalidGuard" v], .tup [.exi "InvalidLanes" v, .exi "InvalidLanes" v], .tup [.exi "InvalidStatement" v, .exi "InvalidStatement" v], .tup [.exi "InvalidBarrier" v, .exi "InvalidBarrier" v], .tup [.exi "InvalidAccess" v, .exi "InvalidAccess" v], .tup [.exi "InvalidNumber" v, .exi "InvalidNumber" v], .tup [.exi "InvalidArray" v, .exi "InvalidArray" v], .tup [.exi "InvalidSchedule" v, .exi "InvalidSchedule" v], .tup [.exi "UnlikeLanes" v, .exi "UnlikeLanes" v]]))], []⟩) rfl rfl)) (by show (2 : Nat) ≤ 16777216; decide)) (by show (9 : Nat) < 16777216; decide) rfl
  have t10 : q__law_made_10 ⟨[some (.val v), some (.own (.lst [.tup [.exi "InvalidGuard" v, .exi "InvalidGuard" v], .tup [.exi "InvalidLanes" v, .exi "InvalidLanes" v], .tup [.exi "InvalidStatement" v, .exi "InvalidStatement" v], .tup [.exi "InvalidBarrier" v, .exi "InvalidBarrier" v], .tup [.exi "InvalidAccess" v, .exi "InvalidAccess" v], .tup [.exi "InvalidNumber" v, .exi "InvalidNumber" v], .tup [.exi "InvalidArray" v, .exi "InvalidArray" v], .tup [.exi "InvalidSchedule" v, .exi "InvalidSchedule" v], .tup [.exi "UnlikeLanes" v, .exi "UnlikeLanes" v], .tup [.exi "Racing" v, .exi "Racing" v]]))], []⟩ = .nx ⟨[some (.val v), some (.own (.lst [.tup [.exi "InvalidGuard" v, .exi "InvalidGuard" v], .tup [.exi "InvalidLanes" v, .exi "InvalidLanes" v], .tup [.exi "InvalidStatement" v, .exi "InvalidStatement" v], .tup [.exi "InvalidBarrier" v, .exi "InvalidBarrier" v], .tup [.exi "InvalidAccess" v, .exi "InvalidAccess" v], .tup [.exi "InvalidNumber" v, .exi "InvalidNumber" v], .tup [.exi "InvalidArray" v, .exi "InvalidArray" v], .tup [.exi "InvalidSchedule" v, .exi "InvalidSchedule" v], .tup [.exi "UnlikeLanes" v, .exi "UnlikeLanes" v], .tup [.exi "Racing" v, .exi "Racing" v], .tup [.exi "NotPlain" v, .exi "NotPlain" v]]))], []⟩ := bapp_at (l := [.tup [.exi "InvalidGuard" v, .exi "InvalidGuard" v], .tup [.exi "InvalidLanes" v, .exi "InvalidLanes" v], .tup [.exi "InvalidStatement" v, .exi "InvalidStatement" v], .tup [.exi "InvalidBarrier" v, .exi "InvalidBarrier" v], .tup [.exi "InvalidAccess" v, .exi "InvalidAccess" v], .tup [.exi "InvalidNumber" v, .exi "InvalidNumber" v], .tup [.exi "InvalidArray" v, .exi "InvalidArray" v], .tup [.exi "InvalidSchedule" v, .exi "InvalidSchedule" v], .tup [.exi "UnlikeLanes" v, .exi "UnlikeLanes" v], .tup [.exi "Racing" v, .exi "Racing" v]]) rfl (tup_at (l := [.exi "NotPlain" v, .exi "NotPlain" v]) (acons_at (s1 := ⟨[some (.val v), some (.own (.lst [.tup [.exi "InvalidGuard" v, .exi "InvalidGuard" v], .tup [.exi "InvalidLanes" v, .exi "InvalidLanes" v], .tup [.exi "InvalidStatement" v, .exi "InvalidStatement" v], .tup [.exi "InvalidBarrier" v, .exi "InvalidBarrier" v], .tup [.exi "InvalidAccess" v, .exi "InvalidAccess" v], .tup [.exi "InvalidNumber" v, .exi "InvalidNumber" v], .tup [.exi "InvalidArray" v, .exi "InvalidArray" v], .tup [.exi "InvalidSchedule" v, .exi "InvalidSchedule" v], .tup [.exi "UnlikeLanes" v, .exi "UnlikeLanes" v], .tup [.exi "Racing" v, .exi "Racing" v]]))], []⟩) rfl (acons_at (s1 := ⟨[some (.val v), some (.own (.lst [.tup [.exi "InvalidGuard" v, .exi "InvalidGuard" v], .tup [.exi "InvalidLanes" v, .exi "InvalidLanes" v], .tup [.exi "InvalidStatement" v, .exi "InvalidStatement" v], .tup [.exi "InvalidBarrier" v, .exi "InvalidBarrier" v], .tup [.exi "InvalidAccess" v, .exi "InvalidAccess" v], .tup [.exi "InvalidNumber" v, .exi "InvalidNumber" v], .tup [.exi "InvalidArray" v, .exi "InvalidArray" v], .tup [.exi "InvalidSchedule" v, .exi "InvalidSchedule" v], .tup [.exi "UnlikeLanes" v, .exi "UnlikeLanes" v], .tup [.exi "Racing" v, .exi "Racing" v]]))], []⟩) rfl rfl)) (by show (2 : Nat) ≤ 16777216; decide)) (by show (10 : Nat) < 16777216; decide) rfl
  have t11 : q__law_made_11 ⟨[some (.val v), some (.own (.lst [.tup [.exi "InvalidGuard" v, .exi "InvalidGuard" v], .tup [.exi "InvalidLanes" v, .exi "InvalidLanes" v], .tup [.exi "InvalidStatement" v, .exi "InvalidStatement" v], .tup [.exi "InvalidBarrier" v, .exi "InvalidBarrier" v], .tup [.exi "InvalidAccess" v, .exi "InvalidAccess" v], .tup [.exi "InvalidNumber" v, .exi "InvalidNumber" v], .tup [.exi "InvalidArray" v, .exi "InvalidArray" v], .tup [.exi "InvalidSchedule" v, .exi "InvalidSchedule" v], .tup [.exi "UnlikeLanes" v, .exi "UnlikeLanes" v], .tup [.exi "Racing" v, .exi "Racing" v], .tup [.exi "NotPlain" v, .exi "NotPlain" v]]))], []⟩ = .nx ⟨[some (.val v), some (.own (.lst [.tup [.exi "InvalidGuard" v, .exi "InvalidGuard" v], .tup [.exi "InvalidLanes" v, .exi "InvalidLanes" v], .tup [.exi "InvalidStatement" v, .exi "InvalidStatement" v], .tup [.exi "InvalidBarrier" v, .exi "InvalidBarrier" v], .tup [.exi "InvalidAccess" v, .exi "InvalidAccess" v], .tup [.exi "InvalidNumber" v, .exi "InvalidNumber" v], .tup [.exi "InvalidArray" v, .exi "InvalidArray" v], .tup [.exi "InvalidSchedule" v, .exi "InvalidSchedule" v], .tup [.exi "UnlikeLanes" v, .exi "UnlikeLanes" v], .tup [.exi "Racing" v, .exi "Racing" v], .tup [.exi "NotPlain" v, .exi "NotPlain" v], .tup [.exi "NothingToUndo" v, .exi "NothingToUndo" v]]))], []⟩ := bapp_at (l := [.tup [.exi "InvalidGuard" v, .exi "InvalidGuard" v], .tup [.exi "InvalidLanes" v, .exi "InvalidLanes" v], .tup [.exi "InvalidStatement" v, .exi "InvalidStatement" v], .tup [.exi "InvalidBarrier" v, .exi "InvalidBarrier" v], .tup [.exi "InvalidAccess" v, .exi "InvalidAccess" v], .tup [.exi "InvalidNumber" v, .exi "InvalidNumber" v], .tup [.exi "InvalidArray" v, .exi "InvalidArray" v], .tup [.exi "InvalidSchedule" v, .exi "InvalidSchedule" v], .tup [.exi "UnlikeLanes" v, .exi "UnlikeLanes" v], .tup [.exi "Racing" v, .exi "Racing" v], .tup [.exi "NotPlain" v, .exi "NotPlain" v]]) rfl (tup_at (l := [.exi "NothingToUndo" v, .exi "NothingToUndo" v]) (acons_at (s1 := ⟨[some (.val v), some (.own (.lst [.tup [.exi "InvalidGuard" v, .exi "InvalidGuard" v], .tup [.exi "InvalidLanes" v, .exi "InvalidLanes" v], .tup [.exi "InvalidStatement" v, .exi "InvalidStatement" v], .tup [.exi "InvalidBarrier" v, .exi "InvalidBarrier" v], .tup [.exi "InvalidAccess" v, .exi "InvalidAccess" v], .tup [.exi "InvalidNumber" v, .exi "InvalidNumber" v], .tup [.exi "InvalidArray" v, .exi "InvalidArray" v], .tup [.exi "InvalidSchedule" v, .exi "InvalidSchedule" v], .tup [.exi "UnlikeLanes" v, .exi "UnlikeLanes" v], .tup [.exi "Racing" v, .exi "Racing" v], .tup [.exi "NotPlain" v, .exi "NotPlain" v]]))], []⟩) rfl (acons_at (s1 := ⟨[some (.val v), some (.own (.lst [.tup [.exi "InvalidGuard" v, .exi "InvalidGuard" v], .tup [.exi "InvalidLanes" v, .exi "InvalidLanes" v], .tup [.exi "InvalidStatement" v, .exi "InvalidStatement" v], .tup [.exi "InvalidBarrier" v, .exi "InvalidBarrier" v], .tup [.exi "InvalidAccess" v, .exi "InvalidAccess" v], .tup [.exi "InvalidNumber" v, .exi "InvalidNumber" v], .tup [.exi "InvalidArray" v, .exi "InvalidArray" v], .tup [.exi "InvalidSchedule" v, .exi "InvalidSchedule" v], .tup [.exi "UnlikeLanes" v, .exi "UnlikeLanes" v], .tup [.exi "Racing" v, .exi "Racing" v], .tup [.exi "NotPlain" v, .exi "NotPlain" v]]))], []⟩) rfl rfl)) (by show (2 : Nat) ≤ 16777216; decide)) (by show (11 : Nat) < 16777216; decide) rfl
  have t12 : q__law_made_12 ⟨[some (.val v), some (.own (.lst [.tup [.exi "InvalidGuard" v, .exi "InvalidGuard" v], .tup [.exi "InvalidLanes" v, .exi "InvalidLanes" v], .tup [.exi "InvalidStatement" v, .exi "InvalidStatement" v], .tup [.exi "InvalidBarrier" v, .exi "InvalidBarrier" v], .tup [.exi "InvalidAccess" v, .exi "InvalidAccess" v], .tup [.exi "InvalidNumber" v, .exi "InvalidNumber" v], .tup [.exi "InvalidArray" v, .exi "InvalidArray" v], .tup [.exi "InvalidSchedule" v, .exi "InvalidSchedule" v], .tup [.exi "UnlikeLanes" v, .exi "UnlikeLanes" v], .tup [.exi "Racing" v, .exi "Racing" v], .tup [.exi "NotPlain" v, .exi "NotPlain" v], .tup [.exi "NothingToUndo" v, .exi "NothingToUndo" v]]))], []⟩ = .nx ⟨[some (.val v), some (.own (.lst [.tup [.exi "InvalidGuard" v, .exi "InvalidGuard" v], .tup [.exi "InvalidLanes" v, .exi "InvalidLanes" v], .tup [.exi "InvalidStatement" v, .exi "InvalidStatement" v], .tup [.exi "InvalidBarrier" v, .exi "InvalidBarrier" v], .tup [.exi "InvalidAccess" v, .exi "InvalidAccess" v], .tup [.exi "InvalidNumber" v, .exi "InvalidNumber" v], .tup [.exi "InvalidArray" v, .exi "InvalidArray" v], .tup [.exi "InvalidSchedule" v, .exi "InvalidSchedule" v], .tup [.exi "UnlikeLanes" v, .exi "UnlikeLanes" v], .tup [.exi "Racing" v, .exi "Racing" v], .tup [.exi "NotPlain" v, .exi "NotPlain" v], .tup [.exi "NothingToUndo" v, .exi "NothingToUndo" v], .tup [.exi "Unreadable" v, .exi "Unreadable" v]]))], []⟩ := bapp_at (l := [.tup [.exi "InvalidGuard" v, .exi "InvalidGuard" v], .tup [.exi "InvalidLanes" v, .exi "InvalidLanes" v], .tup [.exi "InvalidStatement" v, .exi "InvalidStatement" v], .tup [.exi "InvalidBarrier" v, .exi "InvalidBarrier" v], .tup [.exi "InvalidAccess" v, .exi "InvalidAccess" v], .tup [.exi "InvalidNumber" v, .exi "InvalidNumber" v], .tup [.exi "InvalidArray" v, .exi "InvalidArray" v], .tup [.exi "InvalidSchedule" v, .exi "InvalidSchedule" v], .tup [.exi "UnlikeLanes" v, .exi "UnlikeLanes" v], .tup [.exi "Racing" v, .exi "Racing" v], .tup [.exi "NotPlain" v, .exi "NotPlain" v], .tup [.exi "NothingToUndo" v, .exi "NothingToUndo" v]]) rfl (tup_at (l := [.exi "Unreadable" v, .exi "Unreadable" v]) (acons_at (s1 := ⟨[some (.val v), some (.own (.lst [.tup [.exi "InvalidGuard" v, .exi "InvalidGuard" v], .tup [.exi "InvalidLanes" v, .exi "InvalidLanes" v], .tup [.exi "InvalidStatement" v, .exi "InvalidStatement" v], .tup [.exi "InvalidBarrier" v, .exi "InvalidBarrier" v], .tup [.exi "InvalidAccess" v, .exi "InvalidAccess" v], .tup [.exi "InvalidNumber" v, .exi "InvalidNumber" v], .tup [.exi "InvalidArray" v, .exi "InvalidArray" v], .tup [.exi "InvalidSchedule" v, .exi "InvalidSchedule" v], .tup [.exi "UnlikeLanes" v, .exi "UnlikeLanes" v], .tup [.exi "Racing" v, .exi "Racing" v], .tup [.exi "NotPlain" v, .exi "NotPlain" v], .tup [.exi "NothingToUndo" v, .exi "NothingToUndo" v]]))], []⟩) rfl (acons_at (s1 := ⟨[some (.val v), some (.own (.lst [.tup [.exi "InvalidGuard" v, .exi "InvalidGuard" v], .tup [.exi "InvalidLanes" v, .exi "InvalidLanes" v], .tup [.exi "InvalidStatement" v, .exi "InvalidStatement" v], .tup [.exi "InvalidBarrier" v, .exi "InvalidBarrier" v], .tup [.exi "InvalidAccess" v, .exi "InvalidAccess" v], .tup [.exi "InvalidNumber" v, .exi "InvalidNumber" v], .tup [.exi "InvalidArray" v, .exi "InvalidArray" v], .tup [.exi "InvalidSchedule" v, .exi "InvalidSchedule" v], .tup [.exi "UnlikeLanes" v, .exi "UnlikeLanes" v], .tup [.exi "Racing" v, .exi "Racing" v], .tup [.exi "NotPlain" v, .exi "NotPlain" v], .tup [.exi "NothingToUndo" v, .exi "NothingToUndo" v]]))], []⟩) rfl rfl)) (by show (2 : Nat) ≤ 16777216; decide)) (by show (12 : Nat) < 16777216; decide) rfl
  have t13 : q__law_made_13 ⟨[some (.val v), some (.own (.lst [.tup [.exi "InvalidGuard" v, .exi "InvalidGuard" v], .tup [.exi "InvalidLanes" v, .exi "InvalidLanes" v], .tup [.exi "InvalidStatement" v, .exi "InvalidStatement" v], .tup [.exi "InvalidBarrier" v, .exi "InvalidBarrier" v], .tup [.exi "InvalidAccess" v, .exi "InvalidAccess" v], .tup [.exi "InvalidNumber" v, .exi "InvalidNumber" v], .tup [.exi "InvalidArray" v, .exi "InvalidArray" v], .tup [.exi "InvalidSchedule" v, .exi "InvalidSchedule" v], .tup [.exi "UnlikeLanes" v, .exi "UnlikeLanes" v], .tup [.exi "Racing" v, .exi "Racing" v], .tup [.exi "NotPlain" v, .exi "NotPlain" v], .tup [.exi "NothingToUndo" v, .exi "NothingToUndo" v], .tup [.exi "Unreadable" v, .exi "Unreadable" v]]))], []⟩ = .rt (.lst [.tup [.exi "InvalidGuard" v, .exi "InvalidGuard" v], .tup [.exi "InvalidLanes" v, .exi "InvalidLanes" v], .tup [.exi "InvalidStatement" v, .exi "InvalidStatement" v], .tup [.exi "InvalidBarrier" v, .exi "InvalidBarrier" v], .tup [.exi "InvalidAccess" v, .exi "InvalidAccess" v], .tup [.exi "InvalidNumber" v, .exi "InvalidNumber" v], .tup [.exi "InvalidArray" v, .exi "InvalidArray" v], .tup [.exi "InvalidSchedule" v, .exi "InvalidSchedule" v], .tup [.exi "UnlikeLanes" v, .exi "UnlikeLanes" v], .tup [.exi "Racing" v, .exi "Racing" v], .tup [.exi "NotPlain" v, .exi "NotPlain" v], .tup [.exi "NothingToUndo" v, .exi "NothingToUndo" v], .tup [.exi "Unreadable" v, .exi "Unreadable" v]]) ⟨[some (.val v), none], []⟩ := rfl
  unfold m__law_made
  rw [g__law_made_eq]
  simp only [mOf, start0, List.map_cons, List.map_nil, List.length_cons, List.length_nil, Nat.reduceAdd, Nat.reduceSub, List.replicate, List.cons_append, List.nil_append]
  rw [seq_nx t1, seq_nx t2, seq_nx t3, seq_nx t4, seq_nx t5, seq_nx t6, seq_nx t7, seq_nx t8, seq_nx t9, seq_nx t10, seq_nx t11, seq_nx t12, seq_rt t13]
  rfl
theorem orr_no {f g : Stt → Res Bool} {st s1 : Stt} (h : f st = .ok false s1) {r : Res Bool} (k : g s1 = r) : tOrr f g st = r := by
  unfold tOrr
  rw [h]
  exact k
theorem pow20 : pPow (.int 10) (.int 20) = some (.int (10 ^ 20)) := by
  have k : okPow 10 20 = true := by decide +kernel
  unfold pPow
  simp only [k]
  rfl
theorem callBg {st s1 : Stt} {op : List PV → Option PV} {fa : Stt → Res (List PV)} {l : List PV} {r : PV} (ha : fa st = .ok l s1) (h : op l = some r) : eCallB op fa st = .ok r s1 := by
  unfold eCallB
  rw [ha]
  simp only [Res.bind_ok, h, Res.opt_some]
theorem rng_at' {a : Int} {n i : Nat} {p : PV} (h : (rng a n)[i]? = some p) : i < n ∧ p = .int (a + i) := by
  have hi := (List.getElem?_eq_some_iff.mp h).1
  rw [rng_length] at hi
  refine ⟨hi, ?_⟩
  unfold rng at h
  rw [List.getElem?_map, List.getElem?_range hi] at h
  exact (Option.some.inj h).symm
/-- a thing that is told alike -/
def Same (p : PV) : Prop := ∃ x, pRepr [p] = some (.str x) ∧ pEqB (.str x) (.str x) = some true
theorem same_of {p : PV} {n k : Nat} (h : Rk p n k) (hn : n ≤ 1000) (hk : k ≤ 10) : Same p := h.same (by omega) (by omega)
theorem same_text : Same (.str "text") := by
  have sh : (PyData.str "text").shown = "'text'" := by
    unfold PyData.shown
    decide +kernel
  refine ⟨"'text'", ?_, Dd.eq_self (k := 0) (Dd.str (by decide +kernel)) (by decide)⟩
  show (if okRepr (.str "text") = true then some (PV.str (PyData.str "text").shown) else none) = _
  have ok : okRepr (.str "text") = true := by
    unfold okRepr
    rw [sh]
    simp only [PyData.showable, PyData.hasDict, PyData.depth]
    decide +kernel
  rw [if_pos ok, sh]
section
variable {sc : PV} {a1 a2 a5 a6 a7 : Option SV} {p : PV}
theorem turn_e (hp : Same p) {i : Nat} (hi : i < 13) {c : Str} (h : nm13[i] = c) : l_law_3c ⟨[some (.val sc), a1, a2, some (.val p), some (.val (.lst (nm13.map fun c => .tup [.exi c p, .exi c p]))), some (.val (.int (i : Nat))), some (.val (.exi c p)), none], []⟩ = .nx ⟨[some (.val sc), a1, a2, some (.val p), some (.val (.lst (nm13.map fun c => .tup [.exi c p, .exi c p]))), some (.val (.int (i : Nat))), some (.val (.exi c p)), none], []⟩ := by
  obtain ⟨x, hx, hs⟩ := hp
  have hc : c ∈ errNames := h ▸ nm_in _ (List.getElem_mem hi)
  have sS : ∀ c ∈ errNames, exSub c "StrideError" = true := by decide +kernel
  have sV : ∀ c ∈ errNames, exSub c "ValueError" = true := by decide +kernel
  have x1 : eIsX ["StrideError"] (eVar 6) ⟨[some (.val sc), a1, a2, some (.val p), some (.val (.lst (nm13.map fun c => .tup [.exi c p, .exi c p]))), some (.val (.int (i : Nat))), some (.val (.exi c p)), none], []⟩ = .ok (.bl true) ⟨[some (.val sc), a1, a2, some (.val p), some (.val (.lst (nm13.map fun c => .tup [.exi c p, .exi c p]))), some (.val (.int (i : Nat))), some (.val (.exi c p)), none], []⟩ := isx_at (v := p) rfl hc (by simp [sS c hc])
  have x2 : eIsX ["ValueError"] (eVar 6) ⟨[some (.val sc), a1, a2, some (.val p), some (.val (.lst (nm13.map fun c => .tup [.exi c p, .exi c p]))), some (.val (.int (i : Nat))), some (.val (.exi c p)), none], []⟩ = .ok (.bl true) ⟨[some (.val sc), a1, a2, some (.val p), some (.val (.lst (nm13.map fun c => .tup [.exi c p, .exi c p]))), some (.val (.int (i : Nat))), some (.val (.exi c p)), none], []⟩ := isx_at (v := p) rfl hc (by simp [sV c hc])
  have x3 : tOf (eBin pNe (eCallB pRepr (aCons (eXv (eVar 6)) aNil)) (eCallB pRepr (aCons (eVar 3) aNil))) ⟨[some (.val sc), a1, a2, some (.val p), some (.val (.lst (nm13.map fun c => .tup [.exi c p, .exi c p]))), some (.val (.int (i : Nat))), some (.val (.exi c p)), none], []⟩ = .ok false ⟨[some (.val sc), a1, a2, some (.val p), some (.val (.lst (nm13.map fun c => .tup [.exi c p, .exi c p]))), some (.val (.int (i : Nat))), some (.val (.exi c p)), none], []⟩ := ne_z (z := true) (callB1_at (xv_at (fe := eVar 6) rfl hc) hx) (callB1_at (p := p) rfl hx) hs
  have t1 : l_law_3c_s1 ⟨[some (.val sc), a1, a2, some (.val p), some (.val (.lst (nm13.map fun c => .tup [.exi c p, .exi c p]))), some (.val (.int (i : Nat))), some (.val (.exi c p)), none], []⟩ = .nx ⟨[some (.val sc), a1, a2, some (.val p), some (.val (.lst (nm13.map fun c => .tup [.exi c p, .exi c p]))), some (.val (.int (i : Nat))), some (.val (.exi c p)), none], []⟩ := if_no (orr_no x3 (orr_no (nt_z (b := true) (tTru_bl x1)) (nt_z (b := true) (tTru_bl x2))))
  have cl : compL [7] l_law_4c tYesD l_law_4e (rng 0 13) [] ⟨[some (.val sc), a1, a2, some (.val p), some (.val (.lst (nm13.map fun c => .tup [.exi c p, .exi c p]))), some (.val (.int (i : Nat))), some (.val (.exi c p)), none], []⟩ = .ok ((List.range 13).map fun s : Nat => .bl ((s : Int) == (i : Int))) ⟨[some (.val sc), a1, a2, some (.val p), some (.val (.lst (nm13.map fun c => .tup [.exi c p, .exi c p]))), some (.val (.int (i : Nat))), some (.val (.exi c p)), none], []⟩ :=
    compL_M (vs := [7]) (a := l_law_4c) (fe := l_law_4e) (s := ⟨[some (.val sc), a1, a2, some (.val p), some (.val (.lst (nm13.map fun c => .tup [.exi c p, .exi c p]))), some (.val (.int (i : Nat))), some (.val (.exi c p)), none], []⟩) (fun s : Nat => PV.int (0 + (s : Nat))) (fun s : Nat => PV.bl ((s : Int) == (i : Int))) (List.range 13) (by decide) fun s hs =>
      ⟨⟨[some (.val sc), a1, a2, some (.val p), some (.val (.lst (nm13.map fun c => .tup [.exi c p, .exi c p]))), some (.val (.int (i : Nat))), some (.val (.exi c p)), some (.val (.int (0 + (s : Nat))))], []⟩, rfl, ⟨[some (.val sc), a1, a2, some (.val p), some (.val (.lst (nm13.map fun c => .tup [.exi c p, .exi c p]))), some (.val (.int (i : Nat))), some (.val (.exi c p)), some (.val (.int (0 + (s : Nat))))], []⟩, bin_at (p := .int (0 + (s : Nat))) (q := .int (i : Nat)) rfl rfl (by show (pEqB _ _).map PV.bl = _; rw [eqB_int, Int.zero_add]; rfl), rfl⟩
  have fe : (nm13.map fun t => PV.bl (exSub c t)) = (List.range 13).map fun s : Nat => PV.bl ((s : Int) == (i : Int)) := by
    have e := flags_eq i hi
    rw [h] at e
    have e2 := congrArg (List.map PV.bl) e
    rw [List.map_map, List.map_map] at e2
    exact e2
  have dl : ∀ l : List Nat, Dd (.lst (l.map fun s : Nat => PV.bl ((s : Int) == (i : Int)))) 1 := fun l => Dd.lst fun q hq => by
    obtain ⟨s, _, rfl⟩ := List.mem_map.mp hq
    exact Dd.bl _
  have t2 : l_law_3c_s2 ⟨[some (.val sc), a1, a2, some (.val p), some (.val (.lst (nm13.map fun c => .tup [.exi c p, .exi c p]))), some (.val (.int (i : Nat))), some (.val (.exi c p)), none], []⟩ = .nx ⟨[some (.val sc), a1, a2, some (.val p), some (.val (.lst (nm13.map fun c => .tup [.exi c p, .exi c p]))), some (.val (.int (i : Nat))), some (.val (.exi c p)), none], []⟩ := if_no (ne_z (z := true) (s1 := ⟨[some (.val sc), a1, a2, some (.val p), some (.val (.lst (nm13.map fun c => .tup [.exi c p, .exi c p]))), some (.val (.int (i : Nat))), some (.val (.exi c p)), none], []⟩) (call1_ok rfl (e_flags hc)) (comp_at (l := rng 0 13) (s1 := ⟨[some (.val sc), a1, a2, some (.val p), some (.val (.lst (nm13.map fun c => .tup [.exi c p, .exi c p]))), some (.val (.int (i : Nat))), some (.val (.exi c p)), none], []⟩) rfl cl rfl) (by rw [fe]; exact Dd.eq_self (dl _) (by decide)))
  unfold l_law_3c
  rw [seq_nx t1]
  exact oneZ t2
theorem turn_place (hp : Same p) {i : Nat} (hi : i < 13) : ∃ a6', l_law_2c ⟨[some (.val sc), a1, a2, some (.val p), some (.val (.lst (nm13.map fun c => .tup [.exi c p, .exi c p]))), some (.val (.int (i : Nat))), a6, none], []⟩ = .nx ⟨[some (.val sc), a1, a2, some (.val p), some (.val (.lst (nm13.map fun c => .tup [.exi c p, .exi c p]))), some (.val (.int (i : Nat))), a6', none], []⟩ := by
  have e1 : eBin pIx (eVar 4) (eVar 5) ⟨[some (.val sc), a1, a2, some (.val p), some (.val (.lst (nm13.map fun c => .tup [.exi c p, .exi c p]))), some (.val (.int (i : Nat))), a6, none], []⟩ = .ok (.tup [.exi nm13[i] p, .exi nm13[i] p]) ⟨[some (.val sc), a1, a2, some (.val p), some (.val (.lst (nm13.map fun c => .tup [.exi c p, .exi c p]))), some (.val (.int (i : Nat))), a6, none], []⟩ := bin_at (p := .lst (nm13.map fun c => .tup [.exi c p, .exi c p])) (q := .int (i : Nat)) rfl rfl (atI_at (by rw [List.getElem?_map, List.getElem?_eq_getElem hi] <;> rfl))
  have e2 : iAny (eBin pIx (eVar 4) (eVar 5)) ⟨[some (.val sc), a1, a2, some (.val p), some (.val (.lst (nm13.map fun c => .tup [.exi c p, .exi c p]))), some (.val (.int (i : Nat))), a6, none], []⟩ = .ok [.exi nm13[i] p, .exi nm13[i] p] ⟨[some (.val sc), a1, a2, some (.val p), some (.val (.lst (nm13.map fun c => .tup [.exi c p, .exi c p]))), some (.val (.int (i : Nat))), a6, none], []⟩ := by
    unfold iAny
    rw [e1]
    rfl
  obtain ⟨st, e3, a6', rfl⟩ := forL_inv (a := l_law_3b) (b := l_law_3c) (fun _ st => ∃ a6, st = ⟨[some (.val sc), a1, a2, some (.val p), some (.val (.lst (nm13.map fun c => .tup [.exi c p, .exi c p]))), some (.val (.int (i : Nat))), a6, none], []⟩) [PV.exi nm13[i] p, .exi nm13[i] p] 0 ⟨[some (.val sc), a1, a2, some (.val p), some (.val (.lst (nm13.map fun c => .tup [.exi c p, .exi c p]))), some (.val (.int (i : Nat))), a6, none], []⟩ ⟨a6, rfl⟩ (by
    rintro k q st hq ⟨a6, rfl⟩
    have hq : q = .exi nm13[i] p := by
      have := List.mem_of_getElem? hq
      simpa using this
    subst hq
    exact ⟨⟨[some (.val sc), a1, a2, some (.val p), some (.val (.lst (nm13.map fun c => .tup [.exi c p, .exi c p]))), some (.val (.int (i : Nat))), some (.val (.exi nm13[i] p)), none], []⟩, rfl, _, .inl (turn_e hp hi rfl), _, rfl⟩)
  exact ⟨a6', by
    unfold l_law_2c
    exact oneZ ((for_atZ e2).trans e3)⟩
end
theorem turn_all {sc : PV} {j : Int} {a3 a4 a5 a6 : Option SV} {m : MO} {k : Nat} (hp : BSrc k m) (hk : k < 2 ^ 50) : ∃ m2 a3' a4' a5' a6', l_law_1c ⟨[some (.val sc), some (.own m), some (.val (.int j)), a3, a4, a5, a6, none], []⟩ = .nx ⟨[some (.val sc), some (.own m2), some (.val (.int j)), a3', a4', a5', a6', none], []⟩ ∧ BSrc (k + 2) m2 := by
  obtain ⟨d, m1, e1, d0, d1, p1⟩ := draw3 hp (by omega) (10 ^ 20) (by decide +kernel) (by decide +kernel)
  have fewI : ∀ l : List Int, (∀ i ∈ l, i.natAbs < 10 ^ 3) → ∀ q ∈ l.map PV.int, Rk q 4 0 := fun l h q hq => by
    obtain ⟨i, hi, rfl⟩ := List.mem_map.mp hq
    exact Rk.int10 (by decide) (by decide) (h i hi)
  have fl : aCons (eC .non) (aCons (eTup (aCons (eC (.int 0)) (aCons (eC (.int 1)) (aCons (eC (.int 2)) (aCons (eC (.int 3)) aNil))))) (aCons (eC (.str "text")) (aCons (eCall m__law_draw (avN 2 (lSl 1 (lPv (eBin pPow (eC (.int 10)) (eC (.int 20))) lNil)))) (aCons (eTup (aCons (eC (.int 0)) (aCons (eC (.int 2)) aNil))) (aCons (eUn pNeg (eC (.int 1))) aNil))))) ⟨[some (.val sc), some (.own m), some (.val (.int j)), a3, a4, a5, a6, none], []⟩ = .ok [.non, .tup [.int 0, .int 1, .int 2, .int 3], .str "text", .int d, .tup [.int 0, .int 2], .int (-1)] ⟨[some (.val sc), some (.own m1), some (.val (.int j)), a3, a4, a5, a6, none], []⟩ :=
    acons_at (s1 := ⟨[some (.val sc), some (.own m), some (.val (.int j)), a3, a4, a5, a6, none], []⟩) rfl (acons_at (s1 := ⟨[some (.val sc), some (.own m), some (.val (.int j)), a3, a4, a5, a6, none], []⟩) rfl (acons_at (s1 := ⟨[some (.val sc), some (.own m), some (.val (.int j)), a3, a4, a5, a6, none], []⟩) rfl (acons_at (dro rfl (bin_at (p := .int 10) (q := .int 20) rfl rfl pow20) e1) rfl)))
  obtain ⟨p, hv, m2, p2, e2⟩ := pickoT (ro := [some (.val (.int j)), a3, a4, a5, a6, none]) p1 (by omega) [.non, .tup [.int 0, .int 1, .int 2, .int 3], .str "text", .int d, .tup [.int 0, .int 2], .int (-1)] 6 rfl (by decide) (by decide) fl
  have sm : Same p := by
    simp only [List.mem_cons, List.not_mem_nil, or_false] at hv
    rcases hv with rfl | rfl | rfl | rfl | rfl | rfl
    · exact same_of Rk.non (by decide) (by decide)
    · exact same_of (Rk.tup (fewI [0, 1, 2, 3] (by decide))) (by decide) (by decide)
    · exact same_text
    · exact same_of (Rk.int10 (k := 21) (by decide) (by decide) (by
        have : (10 : Int) ^ 20 = 100000000000000000000 := by decide +kernel
        have h21 : (100000000000000000000 : Nat) < 10 ^ 21 := by decide +kernel
        omega)) (by decide) (by decide)
    · exact same_of (Rk.tup (fewI [0, 2] (by decide))) (by decide) (by decide)
    · exact same_of (Rk.int10 (k := 3) (by decide) (by decide) (by decide)) (by decide) (by decide)
  have t1 : l_law_1c_s1 ⟨[some (.val sc), some (.own m), some (.val (.int j)), a3, a4, a5, a6, none], []⟩ = .nx ⟨[some (.val sc), some (.own m2), some (.val (.int j)), some (.val (p)), a4, a5, a6, none], []⟩ := asg_at e2 rfl
  have t2 : l_law_1c_s2 ⟨[some (.val sc), some (.own m2), some (.val (.int j)), some (.val (p)), a4, a5, a6, none], []⟩ = .nx ⟨[some (.val sc), some (.own m2), some (.val (.int j)), some (.val (p)), some (.val (.lst (nm13.map fun c => .tup [.exi c p, .exi c p]))), a5, a6, none], []⟩ := asg_at (s1 := ⟨[some (.val sc), some (.own m2), some (.val (.int j)), some (.val (p)), a4, a5, a6, none], []⟩) (call1_ok rfl (e_made p)) rfl
  obtain ⟨st, e3, a5', a6', rfl⟩ := forL_inv (a := l_law_2b) (b := l_law_2c) (fun _ st => ∃ a5 a6, st = ⟨[some (.val sc), some (.own m2), some (.val (.int j)), some (.val (p)), some (.val (.lst (nm13.map fun c => .tup [.exi c p, .exi c p]))), a5, a6, none], []⟩) (rng 0 13) 0 ⟨[some (.val sc), some (.own m2), some (.val (.int j)), some (.val (p)), some (.val (.lst (nm13.map fun c => .tup [.exi c p, .exi c p]))), a5, a6, none], []⟩ ⟨a5, a6, rfl⟩ (by
    rintro i q st hq ⟨a5, a6, rfl⟩
    obtain ⟨hi, rfl⟩ := rng_at' hq
    rw [show (0 + (i : Int)) = ((i : Nat) : Int) by omega]
    obtain ⟨a6', e⟩ := turn_place (sc := sc) (a1 := some (.own m2)) (a2 := some (.val (.int j))) (a6 := a6) sm hi
    exact ⟨⟨[some (.val sc), some (.own m2), some (.val (.int j)), some (.val (p)), some (.val (.lst (nm13.map fun c => .tup [.exi c p, .exi c p]))), some (.val (.int (i : Nat))), a6, none], []⟩, rfl, _, .inl e, _, _, rfl⟩)
  have t3 : l_law_1c_s3 ⟨[some (.val sc), some (.own m2), some (.val (.int j)), some (.val (p)), some (.val (.lst (nm13.map fun c => .tup [.exi c p, .exi c p]))), a5, a6, none], []⟩ = .nx ⟨[some (.val sc), some (.own m2), some (.val (.int j)), some (.val (p)), some (.val (.lst (nm13.map fun c => .tup [.exi c p, .exi c p]))), a5', a6', none], []⟩ := (for_atZ (l := rng 0 13) rfl).trans e3
  have t4 : l_law_1c_s4 ⟨[some (.val sc), some (.own m2), some (.val (.int j)), some (.val (p)), some (.val (.lst (nm13.map fun c => .tup [.exi c p, .exi c p]))), a5', a6', none], []⟩ = .nx ⟨[some (.val sc), some (.own m2), some (.val (.int j)), some (.val (p)), some (.val (.lst (nm13.map fun c => .tup [.exi c p, .exi c p]))), a5', a6', none], []⟩ := by
    obtain ⟨x, hx, hs⟩ := sm
    have se : ("StrideError" : Str) ∈ errNames := by decide +kernel
    have one : tOf (eBin pNe (eCallB pRepr (aCons (eXv (eNewX "StrideError" (eVar 3))) aNil)) (eCallB pRepr (aCons (eVar 3) aNil))) ⟨[some (.val sc), some (.own m2), some (.val (.int j)), some (.val (p)), some (.val (.lst (nm13.map fun c => .tup [.exi c p, .exi c p]))), a5', a6', none], []⟩ = .ok false ⟨[some (.val sc), some (.own m2), some (.val (.int j)), some (.val (p)), some (.val (.lst (nm13.map fun c => .tup [.exi c p, .exi c p]))), a5', a6', none], []⟩ := ne_z (z := true) (callB1_at (xv_at (c := "StrideError") (v := p) rfl se) hx) (callB1_at (p := p) rfl hx) hs
    exact if_no (orr_no one one)
  refine ⟨m2, some (.val p), some (.val (.lst (nm13.map fun c => .tup [.exi c p, .exi c p]))), a5', a6', ?_, p2⟩
  unfold l_law_1c
  rw [seq_nx t1, seq_nx t2, seq_nx t3]
  exact oneZ t4
theorem callN1 {mm : List SV → List MO → FRes} {st : Stt} {f0 : Stt → Res PV} {p0 : PV} {m : MO} (h0 : f0 st = .ok p0 st) (e : mm [.val p0] [] = .own m []) : oCall mm (avN 1 (lPv f0 lNil)) st = .ok m st := by
  simp only [oCall, avN, lPv, lNil, h0, Res.bind_ok, List.length_cons, List.length_nil, Nat.reduceAdd, if_true, lowerA, distinct, getAll, setAll, e]
theorem asgO_at {st s1 s2 : Stt} {i : Nat} {fo : Stt → Res MO} {m : MO} (h : fo st = .ok m s1) (hi : i < s1.ro.length) (hs : setO i m s1 = s2) : gAsgO i fo st = .nx s2 := by
  unfold gAsgO
  rw [h]
  show (if i < s1.ro.length then Fl.nx (setO i m s1) else _) = _
  rw [if_pos hi, hs]
theorem law_true (ns : List Int) (hl : ns.length ≤ 63) : m_law [.val (scrOf ns)] [] = .ok (.bl true) [] := by
  obtain ⟨m, eb, hb⟩ := e_bag ns hl
  obtain ⟨sc, hsc⟩ : ∃ sc, sc = scrOf ns := ⟨_, rfl⟩
  have ln : pLen [sc] = some (.int (ns.length : Nat)) := by
    rw [hsc]
    show some (PV.int (((ns.map PV.int).length : Nat) : Int)) = _
    rw [List.length_map]
  rw [← hsc] at eb ⊢
  have t1 : q_law_1 ⟨[some (.val sc), none, none, none, none, none, none, none], []⟩ = .nx ⟨[some (.val sc), some (.own m), none, none, none, none, none, none], []⟩ := asgO_at (callN1 rfl eb) (by show (1 : Nat) < 8; decide) rfl
  have hN : ∃ N : Nat, iRangeW1 (aCons (eBin pAdd (eC (.int 4)) (eCallB pMin2 (aCons (eC (.int 8)) (aCons (eCallB pLen (aCons (eVar 0) aNil)) aNil)))) aNil) ⟨[some (.val sc), some (.own m), none, none, none, none, none, none], []⟩ = .ok (rng 0 N) ⟨[some (.val sc), some (.own m), none, none, none, none, none, none], []⟩ ∧ N ≤ 12 := by
    refine ⟨(4 + (if ((ns.length : Nat) : Int) < 8 then ((ns.length : Nat) : Int) else 8)).toNat, ?_, by split <;> omega⟩
    unfold iRangeW1
    rw [show aCons (eBin pAdd (eC (.int 4)) (eCallB pMin2 (aCons (eC (.int 8)) (aCons (eCallB pLen (aCons (eVar 0) aNil)) aNil)))) aNil ⟨[some (.val sc), some (.own m), none, none, none, none, none, none], []⟩ = .ok [.int (4 + (if ((ns.length : Nat) : Int) < 8 then ((ns.length : Nat) : Int) else 8))] ⟨[some (.val sc), some (.own m), none, none, none, none, none, none], []⟩ from
      acons_at (bin_at (p := .int 4) (q := .int (if ((ns.length : Nat) : Int) < 8 then ((ns.length : Nat) : Int) else 8)) rfl (callBg (l := [.int 8, .int ((ns.length : Nat) : Int)]) (acons_at (s1 := ⟨[some (.val sc), some (.own m), none, none, none, none, none, none], []⟩) rfl (acons_at (callB1_at (p := sc) rfl ln) rfl)) rfl) rfl) rfl]
    rfl
  obtain ⟨N, hN, N12⟩ := hN
  obtain ⟨st, e2, m', a2, a3, a4, a5, a6, rfl, _⟩ := forL_inv (a := l_law_1b) (b := l_law_1c) (fun i st => ∃ m a2 a3 a4 a5 a6, st = ⟨[some (.val sc), some (.own m), a2, a3, a4, a5, a6, none], []⟩ ∧ BSrc (2 * i) m) (rng 0 N) 0 ⟨[some (.val sc), some (.own m), none, none, none, none, none, none], []⟩ ⟨m, none, none, none, none, none, rfl, hb⟩ (by
    rintro i q st hq ⟨m, a2, a3, a4, a5, a6, rfl, p1⟩
    obtain ⟨hi, rfl⟩ := rng_at' hq
    rw [Nat.zero_add] at p1 ⊢
    obtain ⟨m2, b3, b4, b5, b6, e, p2⟩ := turn_all (sc := sc) (j := 0 + (i : Int)) (a3 := a3) (a4 := a4) (a5 := a5) (a6 := a6) p1 (by omega)
    exact ⟨⟨[some (.val sc), some (.own m), some (.val (.int (0 + (i : Int)))), a3, a4, a5, a6, none], []⟩, rfl, _, .inl e, m2, _, b3, b4, b5, b6, rfl, p2.mono (by omega)⟩)
  have t2 : q_law_2 ⟨[some (.val sc), some (.own m), none, none, none, none, none, none], []⟩ = .nx ⟨[some (.val sc), some (.own m'), a2, a3, a4, a5, a6, none], []⟩ := (for_atZ hN).trans e2
  have se : ("StrideError" : Str) ∈ errNames := by decide +kernel
  have fs : (nm13.map fun t => PV.bl (exSub "StrideError" t)) = List.replicate 13 (.bl false) := by
    have e : (nm13.map fun t => exSub "StrideError" t) = List.replicate 13 false := by decide +kernel
    have e2 := congrArg (List.map PV.bl) e
    rw [List.map_map, List.map_replicate] at e2
    exact e2
  have t3 : q_law_3 ⟨[some (.val sc), some (.own m'), a2, a3, a4, a5, a6, none], []⟩ = .rt (.bl true) ⟨[some (.val sc), some (.own m'), a2, a3, a4, a5, a6, none], []⟩ := ret_at (bin_at (st := ⟨[some (.val sc), some (.own m'), a2, a3, a4, a5, a6, none], []⟩) (p := .lst (nm13.map fun t => .bl (exSub "StrideError" t))) (q := .lst (List.replicate 13 (.bl false))) (call1_ok (p0 := .exi "StrideError" (.str "a")) rfl (e_flags se)) (bin_at (p := .lst [.bl false]) (q := .int 13) (lst_at (acons_at (s1 := ⟨[some (.val sc), some (.own m'), a2, a3, a4, a5, a6, none], []⟩) rfl rfl) (by show (1 : Nat) ≤ 16777216; decide)) rfl (by
      show (if -(2 ^ 63) ≤ (13 : Int) ∧ (13 : Int) < 2 ^ 63 ∧ 1 * (13 : Int).toNat ≤ 16777216 then some (PV.lst _) else none) = _
      rw [if_pos (by decide)]
      rfl)) (by
    rw [fs]
    show (pEqB _ _).map PV.bl = _
    rw [Dd.eq_self (k := 1) (Dd.lst fun q hq => by rw [List.eq_of_mem_replicate hq]; exact Dd.bl _) (by decide)]
    rfl))
  unfold m_law
  rw [g_law_eq]
  simp only [mOf, start0, List.map_cons, List.map_nil, List.length_cons, List.length_nil, Nat.reduceAdd, Nat.reduceSub, List.replicate, List.cons_append, List.nil_append]
  rw [seq_nx t1, seq_nx t2, seq_rt t3]
  rfl
end K80
open PySem PySem.W PyProof.Rows
set_option maxRecDepth 100000 in
set_option maxHeartbeats 0 in
theorem PySem.Challenge.cw_stridelanes_k80_errors_made_holds : PySem.Challenge.rw_stridelanes_k80_errors_made.Holds := by
  w_on; o_law; k_head; (case hw => w_witness2)
  k_fill
  refine PL.walk_ofG (l := PySem.Challenge.rw_stridelanes_k80_errors_made) (n := 63) (k := 2) (x := "script") (Cn := fun w => L2.CX PySem.Challenge.rw_stridelanes_k80_errors_made.prog w) (sp := fun w => PL.spX _ K80.m_law) rfl (by decide) rfl ⟨rfl, by decide, by decide⟩ (fun w h Y => PySem.W.kIn_of Y) ?F (fun w H a ns hl hO hS => PL.law_sp K80.law_true hl hS (hT := PL.tabOk_nil)) (fun w H s e s' h => PL.no_cx h)
  case F =>
    intro w mg fa h KX G hmg
    refine' K80.all_mk KX G hmg ?a0 ?l0 ?c0 ?k0 ?a1 ?l1 ?c1 ?k1 ?a2 ?l2 ?c2 ?k2 ?a3 ?l3 ?c3 ?k3 ?a4 ?l4 ?c4 ?k4 ?z_ValueError ?z_abs ?z_isinstance ?z_len ?z_min ?z_range ?z_repr ?aC_InvalidGuard ?xC_InvalidGuard ?ne_InvalidGuard ?sa_InvalidGuard ?ga_InvalidGuard ?gg_InvalidGuard ?nv_InvalidGuard ?iC_InvalidGuard ?tC_InvalidGuard ?l1_InvalidGuard ?c1_InvalidGuard ?lc_InvalidGuard ?hv_InvalidGuard ?hf_InvalidGuard ?lcc_InvalidGuard ?hln_InvalidGuard ?kC_InvalidGuard ?eC_InvalidGuard ?vC_InvalidGuard ?yC_InvalidGuard ?hC_InvalidGuard ?isC_InvalidGuard ?sC_InvalidGuard ?ny_InvalidGuard ?mD_InvalidGuard ?isD_InvalidGuard ?zs_InvalidGuard ?tp_InvalidGuard ?aC_InvalidLanes ?xC_InvalidLanes ?ne_InvalidLanes ?sa_InvalidLanes ?ga_InvalidLanes ?gg_InvalidLanes ?nv_InvalidLanes ?iC_InvalidLanes ?tC_InvalidLanes ?l1_InvalidLanes ?c1_InvalidLanes ?lc_InvalidLanes ?hv_InvalidLanes ?hf_InvalidLanes ?lcc_InvalidLanes ?hln_InvalidLanes ?kC_InvalidLanes ?eC_InvalidLanes ?vC_InvalidLanes ?yC_InvalidLanes ?hC_InvalidLanes ?isC_InvalidLanes ?sC_InvalidLanes ?ny_InvalidLanes ?mD_InvalidLanes ?isD_InvalidLanes ?zs_InvalidLanes ?tp_InvalidLanes ?aC_InvalidStatement ?xC_InvalidStatement ?ne_InvalidStatement ?sa_InvalidStatement ?ga_InvalidStatement ?gg_InvalidStatement ?nv_InvalidStatement ?iC_InvalidStatement ?tC_InvalidStatement ?l1_InvalidStatement ?c1_InvalidStatement ?lc_InvalidStatement ?hv_InvalidStatement ?hf_InvalidStatement ?lcc_InvalidStatement ?hln_InvalidStatement ?kC_InvalidStatement ?eC_InvalidStatement ?vC_InvalidStatement ?yC_InvalidStatement ?hC_InvalidStatement ?isC_InvalidStatement ?sC_InvalidStatement ?ny_InvalidStatement ?mD_InvalidStatement ?isD_InvalidStatement ?zs_InvalidStatement ?tp_InvalidStatement ?aC_InvalidBarrier ?xC_InvalidBarrier ?ne_InvalidBarrier ?sa_InvalidBarrier ?ga_InvalidBarrier ?gg_InvalidBarrier ?nv_InvalidBarrier ?iC_InvalidBarrier ?tC_InvalidBarrier ?l1_InvalidBarrier ?c1_InvalidBarrier ?lc_InvalidBarrier ?hv_InvalidBarrier ?hf_InvalidBarrier ?lcc_InvalidBarrier ?hln_InvalidBarrier ?kC_InvalidBarrier ?eC_InvalidBarrier ?vC_InvalidBarrier ?yC_InvalidBarrier ?hC_InvalidBarrier ?isC_InvalidBarrier ?sC_InvalidBarrier ?ny_InvalidBarrier ?mD_InvalidBarrier ?isD_InvalidBarrier ?zs_InvalidBarrier ?tp_InvalidBarrier ?aC_InvalidAccess ?xC_InvalidAccess ?ne_InvalidAccess ?sa_InvalidAccess ?ga_InvalidAccess ?gg_InvalidAccess ?nv_InvalidAccess ?iC_InvalidAccess ?tC_InvalidAccess ?l1_InvalidAccess ?c1_InvalidAccess ?lc_InvalidAccess ?hv_InvalidAccess ?hf_InvalidAccess ?lcc_InvalidAccess ?hln_InvalidAccess ?kC_InvalidAccess ?eC_InvalidAccess ?vC_InvalidAccess ?yC_InvalidAccess ?hC_InvalidAccess ?isC_InvalidAccess ?sC_InvalidAccess ?ny_InvalidAccess ?mD_InvalidAccess ?isD_InvalidAccess ?zs_InvalidAccess ?tp_InvalidAccess ?aC_InvalidNumber ?xC_InvalidNumber ?ne_InvalidNumber ?sa_InvalidNumber ?ga_InvalidNumber ?gg_InvalidNumber ?nv_InvalidNumber ?iC_InvalidNumber ?tC_InvalidNumber ?l1_InvalidNumber ?c1_InvalidNumber ?lc_InvalidNumber ?hv_InvalidNumber ?hf_InvalidNumber ?lcc_InvalidNumber ?hln_InvalidNumber ?kC_InvalidNumber ?eC_InvalidNumber ?vC_InvalidNumber ?yC_InvalidNumber ?hC_InvalidNumber ?isC_InvalidNumber ?sC_InvalidNumber ?ny_InvalidNumber ?mD_InvalidNumber ?isD_InvalidNumber ?zs_InvalidNumber ?tp_InvalidNumber ?aC_InvalidArray ?xC_InvalidArray ?ne_InvalidArray ?sa_InvalidArray ?ga_InvalidArray ?gg_InvalidArray ?nv_InvalidArray ?iC_InvalidArray ?tC_InvalidArray ?l1_InvalidArray ?c1_InvalidArray ?lc_InvalidArray ?hv_InvalidArray ?hf_InvalidArray ?lcc_InvalidArray ?hln_InvalidArray ?kC_InvalidArray ?eC_InvalidArray ?vC_InvalidArray ?yC_InvalidArray ?hC_InvalidArray ?isC_InvalidArray ?sC_InvalidArray ?ny_InvalidArray ?mD_InvalidArray ?isD_InvalidArray ?zs_InvalidArray ?tp_InvalidArray ?aC_InvalidSchedule ?xC_InvalidSchedule ?ne_InvalidSchedule ?sa_InvalidSchedule ?ga_InvalidSchedule ?gg_InvalidSchedule ?nv_InvalidSchedule ?iC_InvalidSchedule ?tC_InvalidSchedule ?l1_InvalidSchedule ?c1_InvalidSchedule ?lc_InvalidSchedule ?hv_InvalidSchedule ?hf_InvalidSchedule ?lcc_InvalidSchedule ?hln_InvalidSchedule ?kC_InvalidSchedule ?eC_InvalidSchedule ?vC_InvalidSchedule ?yC_InvalidSchedule ?hC_InvalidSchedule ?isC_InvalidSchedule ?sC_InvalidSchedule ?ny_InvalidSchedule ?mD_InvalidSchedule ?isD_InvalidSchedule ?zs_InvalidSchedule ?tp_InvalidSchedule ?aC_UnlikeLanes ?xC_UnlikeLanes ?ne_UnlikeLanes ?sa_UnlikeLanes ?ga_UnlikeLanes ?gg_UnlikeLanes ?nv_UnlikeLanes ?iC_UnlikeLanes ?tC_UnlikeLanes ?l1_UnlikeLanes ?c1_UnlikeLanes ?lc_UnlikeLanes ?hv_UnlikeLanes ?hf_UnlikeLanes ?lcc_UnlikeLanes ?hln_UnlikeLanes ?kC_UnlikeLanes ?eC_UnlikeLanes ?vC_UnlikeLanes ?yC_UnlikeLanes ?hC_UnlikeLanes ?isC_UnlikeLanes ?sC_UnlikeLanes ?ny_UnlikeLanes ?mD_UnlikeLanes ?isD_UnlikeLanes ?zs_UnlikeLanes ?tp_UnlikeLanes ?aC_Racing ?xC_Racing ?ne_Racing ?sa_Racing ?ga_Racing ?gg_Racing ?nv_Racing ?iC_Racing ?tC_Racing ?l1_Racing ?c1_Racing ?lc_Racing ?hv_Racing ?hf_Racing ?lcc_Racing ?hln_Racing ?kC_Racing ?eC_Racing ?vC_Racing ?yC_Racing ?hC_Racing ?isC_Racing ?sC_Racing ?ny_Racing ?mD_Racing ?isD_Racing ?zs_Racing ?tp_Racing ?aC_NotPlain ?xC_NotPlain ?ne_NotPlain ?sa_NotPlain ?ga_NotPlain ?gg_NotPlain ?nv_NotPlain ?iC_NotPlain ?tC_NotPlain ?l1_NotPlain ?c1_NotPlain ?lc_NotPlain ?hv_NotPlain ?hf_NotPlain ?lcc_NotPlain ?hln_NotPlain ?kC_NotPlain ?eC_NotPlain ?vC_NotPlain ?yC_NotPlain ?hC_NotPlain ?isC_NotPlain ?sC_NotPlain ?ny_NotPlain ?mD_NotPlain ?isD_NotPlain ?zs_NotPlain ?tp_NotPlain ?aC_NothingToUndo ?xC_NothingToUndo ?ne_NothingToUndo ?sa_NothingToUndo ?ga_NothingToUndo ?gg_NothingToUndo ?nv_NothingToUndo ?iC_NothingToUndo ?tC_NothingToUndo ?l1_NothingToUndo ?c1_NothingToUndo ?lc_NothingToUndo ?hv_NothingToUndo ?hf_NothingToUndo ?lcc_NothingToUndo ?hln_NothingToUndo ?kC_NothingToUndo ?eC_NothingToUndo ?vC_NothingToUndo ?yC_NothingToUndo ?hC_NothingToUndo ?isC_NothingToUndo ?sC_NothingToUndo ?ny_NothingToUndo ?mD_NothingToUndo ?isD_NothingToUndo ?zs_NothingToUndo ?tp_NothingToUndo ?aC_Unreadable ?xC_Unreadable ?ne_Unreadable ?sa_Unreadable ?ga_Unreadable ?gg_Unreadable ?nv_Unreadable ?iC_Unreadable ?tC_Unreadable ?l1_Unreadable ?c1_Unreadable ?lc_Unreadable ?hv_Unreadable ?hf_Unreadable ?lcc_Unreadable ?hln_Unreadable ?kC_Unreadable ?eC_Unreadable ?vC_Unreadable ?yC_Unreadable ?hC_Unreadable ?isC_Unreadable ?sC_Unreadable ?ny_Unreadable ?mD_Unreadable ?isD_Unreadable ?zs_Unreadable ?tp_Unreadable ?aC_StrideError ?xC_StrideError ?sa_StrideError ?ga_StrideError ?gg_StrideError ?nv_StrideError ?iC_StrideError ?tC_StrideError ?l1_StrideError ?c1_StrideError ?lc_StrideError ?hv_StrideError ?hf_StrideError ?lcc_StrideError ?hln_StrideError ?kC_StrideError ?eC_StrideError ?vC_StrideError ?yC_StrideError ?hC_StrideError ?isC_StrideError ?sC_StrideError ?ny_StrideError ?mD_StrideError ?zs_StrideError ?tp_StrideError ?xkb
    (case a0 => k_is); (case l0 => k_is); (case c0 => k_is); (case k0 => k_is); (case a1 => k_is); (case l1 => k_is); (case c1 => k_is); (case k1 => k_is); (case a2 => k_is); (case l2 => k_is); (case c2 => k_is); (case k2 => k_is); (case a3 => k_is); (case l3 => k_is); (case c3 => k_is); (case k3 => k_is); (case a4 => k_is); (case l4 => k_is); (case c4 => k_is); (case k4 => k_is); (case z_ValueError => k_is); (case z_abs => k_is); (case z_isinstance => k_is); (case z_len => k_is); (case z_min => k_is); (case z_range => k_is); (case z_repr => k_is); (case aC_InvalidGuard => k_is); (case xC_InvalidGuard => k_is); (case ne_InvalidGuard => first | rfl | decide +kernel); (case sa_InvalidGuard => k_is); (case ga_InvalidGuard => k_is); (case gg_InvalidGuard => k_is); (case nv_InvalidGuard => k_is); (case iC_InvalidGuard => k_is); (case tC_InvalidGuard => k_is); (case l1_InvalidGuard => k_is); (case c1_InvalidGuard => k_is); (case lc_InvalidGuard => k_is); (case hv_InvalidGuard => rfl); (case hf_InvalidGuard => first | rfl | decide +kernel); (case lcc_InvalidGuard => k_is); (case hln_InvalidGuard => first | exact .inl rfl | exact .inr rfl); (case kC_InvalidGuard => k_is); (case eC_InvalidGuard => k_is); (case vC_InvalidGuard => k_is); (case yC_InvalidGuard => k_is); (case hC_InvalidGuard => k_is); (case isC_InvalidGuard => k_is); (case sC_InvalidGuard => first | rfl | k_is); (case ny_InvalidGuard => k_is); (case mD_InvalidGuard => k_is); (case isD_InvalidGuard => k_is); (case zs_InvalidGuard => k_is); (case tp_InvalidGuard => first | rfl | decide +kernel); (case aC_InvalidLanes => k_is); (case xC_InvalidLanes => k_is); (case ne_InvalidLanes => first | rfl | decide +kernel); (case sa_InvalidLanes => k_is); (case ga_InvalidLanes => k_is); (case gg_InvalidLanes => k_is); (case nv_InvalidLanes => k_is); (case iC_InvalidLanes => k_is); (case tC_InvalidLanes => k_is); (case l1_InvalidLanes => k_is); (case c1_InvalidLanes => k_is); (case lc_InvalidLanes => k_is); (case hv_InvalidLanes => rfl); (case hf_InvalidLanes => first | rfl | decide +kernel); (case lcc_InvalidLanes => k_is); (case hln_InvalidLanes => first | exact .inl rfl | exact .inr rfl); (case kC_InvalidLanes => k_is); (case eC_InvalidLanes => k_is); (case vC_InvalidLanes => k_is); (case yC_InvalidLanes => k_is); (case hC_InvalidLanes => k_is); (case isC_InvalidLanes => k_is); (case sC_InvalidLanes => first | rfl | k_is); (case ny_InvalidLanes => k_is); (case mD_InvalidLanes => k_is); (case isD_InvalidLanes => k_is); (case zs_InvalidLanes => k_is); (case tp_InvalidLanes => first | rfl | decide +kernel); (case aC_InvalidStatement => k_is); (case xC_InvalidStatement => k_is); (case ne_InvalidStatement => first | rfl | decide +kernel); (case sa_InvalidStatement => k_is); (case ga_InvalidStatement => k_is); (case gg_InvalidStatement => k_is); (case nv_InvalidStatement => k_is); (case iC_InvalidStatement => k_is); (case tC_InvalidStatement => k_is); (case l1_InvalidStatement => k_is); (case c1_InvalidStatement => k_is); (case lc_InvalidStatement => k_is); (case hv_InvalidStatement => rfl); (case hf_InvalidStatement => first | rfl | decide +kernel); (case lcc_InvalidStatement => k_is); (case hln_InvalidStatement => first | exact .inl rfl | exact .inr rfl); (case kC_InvalidStatement => k_is); (case eC_InvalidStatement => k_is); (case vC_InvalidStatement => k_is); (case yC_InvalidStatement => k_is); (case hC_InvalidStatement => k_is); (case isC_InvalidStatement => k_is); (case sC_InvalidStatement => first | rfl | k_is); (case ny_InvalidStatement => k_is); (case mD_InvalidStatement => k_is); (case isD_InvalidStatement => k_is); (case zs_InvalidStatement => k_is); (case tp_InvalidStatement => first | rfl | decide +kernel); (case aC_InvalidBarrier => k_is); (case xC_InvalidBarrier => k_is); (case ne_InvalidBarrier => first | rfl | decide +kernel); (case sa_InvalidBarrier => k_is); (case ga_InvalidBarrier => k_is); (case gg_InvalidBarrier => k_is); (case nv_InvalidBarrier => k_is); (case iC_InvalidBarrier => k_is); (case tC_InvalidBarrier => k_is); (case l1_InvalidBarrier => k_is); (case c1_InvalidBarrier => k_is); (case lc_InvalidBarrier => k_is); (case hv_InvalidBarrier => rfl); (case hf_InvalidBarrier => first | rfl | decide +kernel); (case lcc_InvalidBarrier => k_is); (case hln_InvalidBarrier => first | exact .inl rfl | exact .inr rfl); (case kC_InvalidBarrier => k_is); (case eC_InvalidBarrier => k_is); (case vC_InvalidBarrier => k_is); (case yC_InvalidBarrier => k_is); (case hC_InvalidBarrier => k_is); (case isC_InvalidBarrier => k_is); (case sC_InvalidBarrier => first | rfl | k_is); (case ny_InvalidBarrier => k_is); (case mD_InvalidBarrier => k_is); (case isD_InvalidBarrier => k_is); (case zs_InvalidBarrier => k_is); (case tp_InvalidBarrier => first | rfl | decide +kernel); (case aC_InvalidAccess => k_is); (case xC_InvalidAccess => k_is); (case ne_InvalidAccess => first | rfl | decide +kernel); (case sa_InvalidAccess => k_is); (case ga_InvalidAccess => k_is); (case gg_InvalidAccess => k_is); (case nv_InvalidAccess => k_is); (case iC_InvalidAccess => k_is); (case tC_InvalidAccess => k_is); (case l1_InvalidAccess => k_is); (case c1_InvalidAccess => k_is); (case lc_InvalidAccess => k_is); (case hv_InvalidAccess => rfl); (case hf_InvalidAccess => first | rfl | decide +kernel); (case lcc_InvalidAccess => k_is); (case hln_InvalidAccess => first | exact .inl rfl | exact .inr rfl); (case kC_InvalidAccess => k_is); (case eC_InvalidAccess => k_is); (case vC_InvalidAccess => k_is); (case yC_InvalidAccess => k_is); (case hC_InvalidAccess => k_is); (case isC_InvalidAccess => k_is); (case sC_InvalidAccess => first | rfl | k_is); (case ny_InvalidAccess => k_is); (case mD_InvalidAccess => k_is); (case isD_InvalidAccess => k_is); (case zs_InvalidAccess => k_is); (case tp_InvalidAccess => first | rfl | decide +kernel); (case aC_InvalidNumber => k_is); (case xC_InvalidNumber => k_is); (case ne_InvalidNumber => first | rfl | decide +kernel); (case sa_InvalidNumber => k_is); (case ga_InvalidNumber => k_is); (case gg_InvalidNumber => k_is); (case nv_InvalidNumber => k_is); (case iC_InvalidNumber => k_is); (case tC_InvalidNumber => k_is); (case l1_InvalidNumber => k_is); (case c1_InvalidNumber => k_is); (case lc_InvalidNumber => k_is); (case hv_InvalidNumber => rfl); (case hf_InvalidNumber => first | rfl | decide +kernel); (case lcc_InvalidNumber => k_is); (case hln_InvalidNumber => first | exact .inl rfl | exact .inr rfl); (case kC_InvalidNumber => k_is); (case eC_InvalidNumber => k_is); (case vC_InvalidNumber => k_is); (case yC_InvalidNumber => k_is); (case hC_InvalidNumber => k_is); (case isC_InvalidNumber => k_is); (case sC_InvalidNumber => first | rfl | k_is); (case ny_InvalidNumber => k_is); (case mD_InvalidNumber => k_is); (case isD_InvalidNumber => k_is); (case zs_InvalidNumber => k_is); (case tp_InvalidNumber => first | rfl | decide +kernel); (case aC_InvalidArray => k_is); (case xC_InvalidArray => k_is); (case ne_InvalidArray => first | rfl | decide +kernel); (case sa_InvalidArray => k_is); (case ga_InvalidArray => k_is); (case gg_InvalidArray => k_is); (case nv_InvalidArray => k_is); (case iC_InvalidArray => k_is); (case tC_InvalidArray => k_is); (case l1_InvalidArray => k_is); (case c1_InvalidArray => k_is); (case lc_InvalidArray => k_is); (case hv_InvalidArray => rfl); (case hf_InvalidArray => first | rfl | decide +kernel); (case lcc_InvalidArray => k_is); (case hln_InvalidArray => first | exact .inl rfl | exact .inr rfl); (case kC_InvalidArray => k_is); (case eC_InvalidArray => k_is); (case vC_InvalidArray => k_is); (case yC_InvalidArray => k_is); (case hC_InvalidArray => k_is); (case isC_InvalidArray => k_is); (case sC_InvalidArray => first | rfl | k_is); (case ny_InvalidArray => k_is); (case mD_InvalidArray => k_is); (case isD_InvalidArray => k_is); (case zs_InvalidArray => k_is); (case tp_InvalidArray => first | rfl | decide +kernel); (case aC_InvalidSchedule => k_is); (case xC_InvalidSchedule => k_is); (case ne_InvalidSchedule => first | rfl | decide +kernel); (case sa_InvalidSchedule => k_is); (case ga_InvalidSchedule => k_is); (case gg_InvalidSchedule => k_is); (case nv_InvalidSchedule => k_is); (case iC_InvalidSchedule => k_is); (case tC_InvalidSchedule => k_is); (case l1_InvalidSchedule => k_is); (case c1_InvalidSchedule => k_is); (case lc_InvalidSchedule => k_is); (case hv_InvalidSchedule => rfl); (case hf_InvalidSchedule => first | rfl | decide +kernel); (case lcc_InvalidSchedule => k_is); (case hln_InvalidSchedule => first | exact .inl rfl | exact .inr rfl); (case kC_InvalidSchedule => k_is); (case eC_InvalidSchedule => k_is); (case vC_InvalidSchedule => k_is); (case yC_InvalidSchedule => k_is); (case hC_InvalidSchedule => k_is); (case isC_InvalidSchedule => k_is); (case sC_InvalidSchedule => first | rfl | k_is); (case ny_InvalidSchedule => k_is); (case mD_InvalidSchedule => k_is); (case isD_InvalidSchedule => k_is); (case zs_InvalidSchedule => k_is); (case tp_InvalidSchedule => first | rfl | decide +kernel); (case aC_UnlikeLanes => k_is); (case xC_UnlikeLanes => k_is); (case ne_UnlikeLanes => first | rfl | decide +kernel); (case sa_UnlikeLanes => k_is); (case ga_UnlikeLanes => k_is); (case gg_UnlikeLanes => k_is); (case nv_UnlikeLanes => k_is); (case iC_UnlikeLanes => k_is); (case tC_UnlikeLanes => k_is); (case l1_UnlikeLanes => k_is); (case c1_UnlikeLanes => k_is); (case lc_UnlikeLanes => k_is); (case hv_UnlikeLanes => rfl); (case hf_UnlikeLanes => first | rfl | decide +kernel); (case lcc_UnlikeLanes => k_is); (case hln_UnlikeLanes => first | exact .inl rfl | exact .inr rfl); (case kC_UnlikeLanes => k_is); (case eC_UnlikeLanes => k_is); (case vC_UnlikeLanes => k_is); (case yC_UnlikeLanes => k_is); (case hC_UnlikeLanes => k_is); (case isC_UnlikeLanes => k_is); (case sC_UnlikeLanes => first | rfl | k_is); (case ny_UnlikeLanes => k_is); (case mD_UnlikeLanes => k_is); (case isD_UnlikeLanes => k_is); (case zs_UnlikeLanes => k_is); (case tp_UnlikeLanes => first | rfl | decide +kernel); (case aC_Racing => k_is); (case xC_Racing => k_is); (case ne_Racing => first | rfl | decide +kernel); (case sa_Racing => k_is); (case ga_Racing => k_is); (case gg_Racing => k_is); (case nv_Racing => k_is); (case iC_Racing => k_is); (case tC_Racing => k_is); (case l1_Racing => k_is); (case c1_Racing => k_is); (case lc_Racing => k_is); (case hv_Racing => rfl); (case hf_Racing => first | rfl | decide +kernel); (case lcc_Racing => k_is); (case hln_Racing => first | exact .inl rfl | exact .inr rfl); (case kC_Racing => k_is); (case eC_Racing => k_is); (case vC_Racing => k_is); (case yC_Racing => k_is); (case hC_Racing => k_is); (case isC_Racing => k_is); (case sC_Racing => first | rfl | k_is); (case ny_Racing => k_is); (case mD_Racing => k_is); (case isD_Racing => k_is); (case zs_Racing => k_is); (case tp_Racing => first | rfl | decide +kernel); (case aC_NotPlain => k_is); (case xC_NotPlain => k_is); (case ne_NotPlain => first | rfl | decide +kernel); (case sa_NotPlain => k_is); (case ga_NotPlain => k_is); (case gg_NotPlain => k_is); (case nv_NotPlain => k_is); (case iC_NotPlain => k_is); (case tC_NotPlain => k_is); (case l1_NotPlain => k_is); (case c1_NotPlain => k_is); (case lc_NotPlain => k_is); (case hv_NotPlain => rfl); (case hf_NotPlain => first | rfl | decide +kernel); (case lcc_NotPlain => k_is); (case hln_NotPlain => first | exact .inl rfl | exact .inr rfl); (case kC_NotPlain => k_is); (case eC_NotPlain => k_is); (case vC_NotPlain => k_is); (case yC_NotPlain => k_is); (case hC_NotPlain => k_is); (case isC_NotPlain => k_is); (case sC_NotPlain => first | rfl | k_is); (case ny_NotPlain => k_is); (case mD_NotPlain => k_is); (case isD_NotPlain => k_is); (case zs_NotPlain => k_is); (case tp_NotPlain => first | rfl | decide +kernel); (case aC_NothingToUndo => k_is); (case xC_NothingToUndo => k_is); (case ne_NothingToUndo => first | rfl | decide +kernel); (case sa_NothingToUndo => k_is); (case ga_NothingToUndo => k_is); (case gg_NothingToUndo => k_is); (case nv_NothingToUndo => k_is); (case iC_NothingToUndo => k_is); (case tC_NothingToUndo => k_is); (case l1_NothingToUndo => k_is); (case c1_NothingToUndo => k_is); (case lc_NothingToUndo => k_is); (case hv_NothingToUndo => rfl); (case hf_NothingToUndo => first | rfl | decide +kernel); (case lcc_NothingToUndo => k_is); (case hln_NothingToUndo => first | exact .inl rfl | exact .inr rfl); (case kC_NothingToUndo => k_is); (case eC_NothingToUndo => k_is); (case vC_NothingToUndo => k_is); (case yC_NothingToUndo => k_is); (case hC_NothingToUndo => k_is); (case isC_NothingToUndo => k_is); (case sC_NothingToUndo => first | rfl | k_is); (case ny_NothingToUndo => k_is); (case mD_NothingToUndo => k_is); (case isD_NothingToUndo => k_is); (case zs_NothingToUndo => k_is); (case tp_NothingToUndo => first | rfl | decide +kernel); (case aC_Unreadable => k_is); (case xC_Unreadable => k_is); (case ne_Unreadable => first | rfl | decide +kernel); (case sa_Unreadable => k_is); (case ga_Unreadable => k_is); (case gg_Unreadable => k_is); (case nv_Unreadable => k_is); (case iC_Unreadable => k_is); (case tC_Unreadable => k_is); (case l1_Unreadable => k_is); (case c1_Unreadable => k_is); (case lc_Unreadable => k_is); (case hv_Unreadable => rfl); (case hf_Unreadable => first | rfl | decide +kernel); (case lcc_Unreadable => k_is); (case hln_Unreadable => first | exact .inl rfl | exact .inr rfl); (case kC_Unreadable => k_is); (case eC_Unreadable => k_is); (case vC_Unreadable => k_is); (case yC_Unreadable => k_is); (case hC_Unreadable => k_is); (case isC_Unreadable => k_is); (case sC_Unreadable => first | rfl | k_is); (case ny_Unreadable => k_is); (case mD_Unreadable => k_is); (case isD_Unreadable => k_is); (case zs_Unreadable => k_is); (case tp_Unreadable => first | rfl | decide +kernel); (case aC_StrideError => k_is); (case xC_StrideError => k_is); (case sa_StrideError => k_is); (case ga_StrideError => k_is); (case gg_StrideError => k_is); (case nv_StrideError => k_is); (case iC_StrideError => k_is); (case tC_StrideError => k_is); (case l1_StrideError => k_is); (case c1_StrideError => k_is); (case lc_StrideError => k_is); (case hv_StrideError => rfl); (case hf_StrideError => first | rfl | decide +kernel); (case lcc_StrideError => k_is); (case hln_StrideError => first | exact .inl rfl | exact .inr rfl); (case kC_StrideError => k_is); (case eC_StrideError => k_is); (case vC_StrideError => k_is); (case yC_StrideError => k_is); (case hC_StrideError => k_is); (case isC_StrideError => k_is); (case sC_StrideError => first | rfl | k_is); (case ny_StrideError => k_is); (case mD_StrideError => k_is); (case zs_StrideError => k_is); (case tp_StrideError => first | rfl | decide +kernel); (case xkb => kernel_rfl)
